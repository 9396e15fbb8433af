import PyProof.Rows.All
import HandS.ForMost
import HandS.Wide
import HandS.WordsExc
import HandS.Defaults
import HandS.Zip
import HandS.IsInst
import HandS.Flow
import HandS.SortInts
import HandS.TupAny
import HandS.Star
import KE.KTupSum
import HandS.NoneIn
import HandS.Head0
import HandS.Head1
import HandS.Head2
import HandS.HeadEnd
import HandS.HeadHook1
import HandS.HeadHook2
import HandS.EndBits
import KE.GoesMore
import HandS.SortKw
import HandS.TupMul
import HandS.Sort
import HandS.Deep
import HandS.Conv
import HandS.SetFor
import HandS.Strs
import HandS.TupSets
import HandS.Keys
import HandS.SortRule
import PySem.Challenge.RW_growback_k12_whole_cells_that_stay
set_option Elab.async false
set_option linter.all false
set_option maxRecDepth 100000
set_option maxHeartbeats 2000000
/-! The lift layer: each construct of Python as a plain computable function over values and a list of objects; `lift` ties it to the hand layer's readings. -/
namespace GB
open PySem PySem.Spec PyProof.Rows L2

/-! ### values, objects, results -/
inductive PV where
  | non | bl (b : Bool) | int (i : Int) | str (x : Str) | tup (xs : List PV) | lst (xs : List PV) | scr (xs : List PV) | ref (l : Nat) | raw (v : V)
inductive Ob where
  | lst (xs : List PV)
abbrev Mu := List Ob
/-- l: the objects that may be written; b: lists that are being made, that no value speaks of -/
structure Io where
  l : List Addr
  b : List Addr
def Io.snoc (ι : Io) (p : Addr) : Io := ⟨ι.l ++ [p], ι.b⟩
def Io.gho (ι : Io) (p : Addr) : Io := ⟨ι.l, p :: ι.b⟩
theorem snoc_l {ι : Io} {p : Addr} : (ι.snoc p).l = ι.l ++ [p] := rfl
structure Ex where
  cls : Str
  flds : List (Str × PV)
inductive R (α : Type) where
  | ok (a : α) (μ : Mu)
  | exc (e : Ex) (μ : Mu)
  | bad
def R.bind {α β : Type} (r : R α) (f : α → Mu → R β) : R β := match r with
  | .ok a μ => f a μ
  | .exc e μ => .exc e μ
  | .bad => .bad
theorem ndf {α : Sort _} {a b : α} (h : a = b) : a = b := h
@[simp] theorem R.bind_ok {α β : Type} {a : α} {μ : Mu} {f : α → Mu → R β} : (R.ok a μ).bind f = f a μ := ndf rfl
@[simp] theorem R.bind_exc {α β : Type} {e : Ex} {μ : Mu} {f : α → Mu → R β} : (R.exc e μ : R α).bind f = .exc e μ := ndf rfl
@[simp] theorem R.bind_bad {α β : Type} {f : α → Mu → R β} : (R.bad : R α).bind f = .bad := ndf rfl
abbrev Rho := List (Option PV)

/-! ### what a value stands for -/
/-- a list of the module's own, as it is written -/
def KL (K : PySem.W.Frag) (a : Addr) (vs : List V) : Prop := ∃ (o : Obj) (its : Array Value) (n : Nat), K.lookup a = some o ∧ o.cls = .type "list" ∧ o.dict = none ∧ o.data = .seq its n ∧ its.size ≤ sizeLine ∧ Vals vs its.toList
/-- a list that nobody writes -/
def RoL (K : PySem.W.Frag) (H : Hp) (a : Addr) (vs : List V) : Prop := (∃ o, H a = some (.frz o (.lst vs))) ∨ KL K a vs
/-- a list that is not among the written ones -/
def InL (ι : Io) (H : Hp) (a : Addr) (vs : List V) : Prop := H a = some (.lst vs) ∧ a ∉ ι.l ∧ a ∉ ι.b
mutual
def Rep (K : PySem.W.Frag) (ι : Io) (H : Hp) : PV → V → Prop
  | .non, v => v = .non
  | .bl b, v => v = .bl b
  | .int i, v => v = .int i
  | .str x, v => v = .str x
  | .tup xs, v => ∃ a vs, v = .ref a ∧ SqT K H a vs ∧ RepL K ι H xs vs
  | .lst xs, v => ∃ a vs, v = .ref a ∧ InL ι H a vs ∧ RepL K ι H xs vs
  | .scr xs, v => ∃ a vs, v = .ref a ∧ RoL K H a vs ∧ RepL K ι H xs vs
  | .ref l, v => ∃ a, v = .ref a ∧ ι.l[l]? = some a
  | .raw u, v => v = u
def RepL (K : PySem.W.Frag) (ι : Io) (H : Hp) : List PV → List V → Prop
  | [], vs => vs = []
  | x :: xs, vs => ∃ v r, vs = v :: r ∧ Rep K ι H x v ∧ RepL K ι H xs r
end
structure Grow (K : PySem.W.Frag) (ι : Io) (H : Hp) (ι' : Io) (H' : Hp) : Prop where
  pre : ι.l <+: ι'.l
  gho : ∀ a, a ∈ ι'.b → a ∈ ι.b ∨ H a = none
  ghs : ∀ a, a ∈ ι.b → a ∈ ι'.b
  liv : ∀ a, H a ≠ none → H' a ≠ none
  tup : ∀ a vs, SqT K H a vs → SqT K H' a vs
  frz : ∀ a o u, H a = some (.frz o u) → H' a = some (.frz o u)
  frm : ∀ a o, a ∉ ι.l → H a = some o → H' a = some o
  new : ∀ p, p ∈ ι'.l → p ∈ ι.l ∨ H p = none
section
variable {K : PySem.W.Frag} {ι ι' ι'' : Io} {H H' H'' : Hp}
theorem Grow.refl : Grow K ι H ι H := ⟨List.prefix_refl _, fun _ h => .inl h, fun _ h => h, fun _ h => h, fun _ _ h => h, fun _ _ _ h => h, fun _ _ _ h => h, fun _ h => .inl h⟩
theorem Grow.trans (a : Grow K ι H ι' H') (b : Grow K ι' H' ι'' H'') : Grow K ι H ι'' H'' := by
  refine ⟨a.pre.trans b.pre, fun c h => (b.gho c h).elim (a.gho c) fun z => .inr (Classical.byContradiction fun q => a.liv c q z), fun c h => b.ghs c (a.ghs c h), fun c h => b.liv c (a.liv c h), fun c vs h => b.tup c vs (a.tup c vs h), fun c o u h => b.frz c o u (a.frz c o u h), fun c o n h => b.frm c o (fun z => ?_) (a.frm c o n h), fun p hp => ?_⟩
  · rcases a.new c z with q | q
    · exact n q
    · rw [h] at q; cases q
  · rcases b.new p hp with q | q
    · exact a.new p q
    · by_cases hi : p ∈ ι.l
      · exact .inl hi
      · right
        cases z : H p with
        | none => rfl
        | some o => rw [a.frm p o hi z] at q; cases q
theorem pre_get {α : Type} {l l' : List α} (h : l <+: l') {i : Nat} {a : α} (e : l[i]? = some a) : l'[i]? = some a := by
  obtain ⟨t, rfl⟩ := h
  obtain ⟨hi, _⟩ := List.getElem?_eq_some_iff.mp e
  rw [List.getElem?_append_left hi]; exact e
theorem InL.grow (g : Grow K ι H ι' H') {a : Addr} {vs : List V} (h : InL ι H a vs) : InL ι' H' a vs := by
  obtain ⟨h, n, n2⟩ := h
  refine ⟨g.frm a _ n h, fun z => ?_, fun z => (g.gho a z).elim n2 fun q => by rw [h] at q; cases q⟩
  rcases g.new a z with q | q
  · exact n q
  · rw [h] at q; cases q
theorem RoL.grow (g : Grow K ι H ι' H') {a : Addr} {vs : List V} (h : RoL K H a vs) : RoL K H' a vs := by
  rcases h with ⟨o, h⟩ | h
  · exact .inl ⟨o, g.frz a o _ h⟩
  · exact .inr h
mutual
theorem Rep.grow (g : Grow K ι H ι' H') : ∀ {x : PV} {v : V}, Rep K ι H x v → Rep K ι' H' x v
  | .non, _, h => h
  | .bl _, _, h => h
  | .int _, _, h => h
  | .str _, _, h => h
  | .tup xs, _, ⟨a, vs, e, s, r⟩ => ⟨a, vs, e, g.tup a vs s, RepL.grow g r⟩
  | .lst xs, _, ⟨a, vs, e, s, r⟩ => ⟨a, vs, e, s.grow g, RepL.grow g r⟩
  | .scr xs, _, ⟨a, vs, e, s, r⟩ => ⟨a, vs, e, s.grow g, RepL.grow g r⟩
  | .ref _, _, ⟨a, e, h⟩ => ⟨a, e, pre_get g.pre h⟩
  | .raw _, _, h => h
theorem RepL.grow (g : Grow K ι H ι' H') : ∀ {xs : List PV} {vs : List V}, RepL K ι H xs vs → RepL K ι' H' xs vs
  | [], _, h => h
  | _ :: _, _, ⟨v, r, e, h1, h2⟩ => ⟨v, r, e, Rep.grow g h1, RepL.grow g h2⟩
end
mutual
theorem Rep.mapH (hl : ∀ (i : Nat) (a : Addr), ι.l[i]? = some a → ι'.l[i]? = some a) (ht : ∀ a vs, SqT K H a vs → SqT K H' a vs) (hz : ∀ a vs, RoL K H a vs → RoL K H' a vs) (hi : ∀ a vs, InL ι H a vs → InL ι' H' a vs) : ∀ {x : PV} {v : V}, Rep K ι H x v → Rep K ι' H' x v
  | .non, _, h => h
  | .bl _, _, h => h
  | .int _, _, h => h
  | .str _, _, h => h
  | .tup xs, _, ⟨a, vs, e, s, r⟩ => ⟨a, vs, e, ht a vs s, RepL.mapH hl ht hz hi r⟩
  | .lst xs, _, ⟨a, vs, e, s, r⟩ => ⟨a, vs, e, hi a vs s, RepL.mapH hl ht hz hi r⟩
  | .scr xs, _, ⟨a, vs, e, s, r⟩ => ⟨a, vs, e, hz a vs s, RepL.mapH hl ht hz hi r⟩
  | .ref _, _, ⟨a, e, h⟩ => ⟨a, e, hl _ _ h⟩
  | .raw _, _, h => h
theorem RepL.mapH (hl : ∀ (i : Nat) (a : Addr), ι.l[i]? = some a → ι'.l[i]? = some a) (ht : ∀ a vs, SqT K H a vs → SqT K H' a vs) (hz : ∀ a vs, RoL K H a vs → RoL K H' a vs) (hi : ∀ a vs, InL ι H a vs → InL ι' H' a vs) : ∀ {xs : List PV} {vs : List V}, RepL K ι H xs vs → RepL K ι' H' xs vs
  | [], _, h => h
  | _ :: _, _, ⟨v, r, e, h1, h2⟩ => ⟨v, r, e, Rep.mapH hl ht hz hi h1, RepL.mapH hl ht hz hi h2⟩
end
theorem RepL.nil_ : RepL K ι H [] [] := rfl
theorem RepL.cons_ {x : PV} {v : V} {xs : List PV} {vs : List V} (h : Rep K ι H x v) (t : RepL K ι H xs vs) : RepL K ι H (x :: xs) (v :: vs) := ⟨v, vs, rfl, h, t⟩
theorem RepL.length : ∀ {xs : List PV} {vs : List V}, RepL K ι H xs vs → vs.length = xs.length
  | [], _, h => by rw [show _ = [] from h]; rfl
  | _ :: _, _, ⟨v, r, e, _, h⟩ => by rw [e, List.length_cons, List.length_cons, RepL.length h]
theorem RepL.get : ∀ {xs : List PV} {vs : List V} {i : Nat} {x : PV}, RepL K ι H xs vs → xs[i]? = some x → ∃ v, vs[i]? = some v ∧ Rep K ι H x v
  | [], _, _, _, _, e => by simp at e
  | _ :: _, _, 0, _, ⟨v, r, e, h, _⟩, q => by
    simp at q; subst q; subst e; exact ⟨v, rfl, h⟩
  | _ :: xs, _, i + 1, x, ⟨v, r, e, _, h⟩, q => by
    subst e
    obtain ⟨u, h1, h2⟩ := RepL.get (i := i) h (by simpa using q)
    exact ⟨u, by simpa using h1, h2⟩
theorem RepL.back : ∀ {xs : List PV} {vs : List V} {i : Nat} {v : V}, RepL K ι H xs vs → vs[i]? = some v → ∃ x, xs[i]? = some x ∧ Rep K ι H x v
  | [], _, _, _, h, e => by rw [show _ = [] from h] at e; simp at e
  | x :: _, _, 0, _, ⟨v, r, e, h, _⟩, q => by
    subst e; simp at q; subst q; exact ⟨x, rfl, h⟩
  | _ :: xs, _, i + 1, x, ⟨v, r, e, _, h⟩, q => by
    subst e
    obtain ⟨u, h1, h2⟩ := RepL.back (i := i) h (by simpa using q)
    exact ⟨u, by simpa using h1, h2⟩
theorem RepL.append : ∀ {xs ys : List PV} {vs us : List V}, RepL K ι H xs vs → RepL K ι H ys us → RepL K ι H (xs ++ ys) (vs ++ us)
  | [], _, _, _, h, h2 => by rw [show _ = [] from h]; exact h2
  | _ :: _, _, _, _, ⟨v, r, e, h, t⟩, h2 => by
    subst e; exact ⟨v, _, rfl, h, RepL.append t h2⟩
theorem RepL.set {y : PV} {u : V} (hy : Rep K ι H y u) : ∀ {xs : List PV} {vs : List V} (i : Nat), RepL K ι H xs vs → RepL K ι H (xs.set i y) (vs.set i u)
  | [], _, _, h => by rw [show _ = [] from h]; rfl
  | _ :: _, _, 0, ⟨v, r, e, _, t⟩ => by subst e; exact ⟨u, r, rfl, hy, t⟩
  | _ :: _, _, i + 1, ⟨v, r, e, h, t⟩ => by subst e; exact ⟨v, _, rfl, h, RepL.set hy i t⟩
theorem RepL.take : ∀ {xs : List PV} {vs : List V} (n : Nat), RepL K ι H xs vs → RepL K ι H (xs.take n) (vs.take n)
  | [], _, n, h => by rw [show _ = [] from h]; simp [RepL]
  | _ :: _, _, 0, _ => rfl
  | _ :: _, _, n + 1, ⟨v, r, e, h, t⟩ => by subst e; exact ⟨v, _, rfl, h, RepL.take n t⟩
theorem RepL.drop : ∀ {xs : List PV} {vs : List V} (n : Nat), RepL K ι H xs vs → RepL K ι H (xs.drop n) (vs.drop n)
  | [], _, n, h => by rw [show _ = [] from h]; simp [RepL]
  | _ :: _, _, 0, h => h
  | _ :: _, _, n + 1, ⟨v, r, e, h, t⟩ => by subst e; exact RepL.drop n t

def ObjR (K : PySem.W.Frag) (ι : Io) (H : Hp) (a : Addr) : Ob → Prop
  | .lst xs => ∃ vs, H a = some (.lst vs) ∧ RepL K ι H xs vs
structure HR (K : PySem.W.Frag) (ι : Io) (μ : Mu) (H : Hp) : Prop where
  nd : ∀ (l k : Nat) (a : Addr), ι.l[l]? = some a → ι.l[k]? = some a → l = k
  len : ι.l.length = μ.length
  gb : ∀ a, a ∈ ι.b → H a ≠ none
  obj : ∀ (l : Nat) (o : Ob) (a : Addr), μ[l]? = some o → ι.l[l]? = some a → ObjR K ι H a o
theorem HR.at_ {μ : Mu} (h : HR K ι μ H) {l : Nat} {o : Ob} (e : μ[l]? = some o) : ∃ a, ι.l[l]? = some a ∧ ObjR K ι H a o := by
  obtain ⟨hl, _⟩ := List.getElem?_eq_some_iff.mp e
  have h2 : l < ι.l.length := by rw [h.len]; exact hl
  exact ⟨ι.l[l], by rw [List.getElem?_eq_getElem h2], h.obj l o _ e (by rw [List.getElem?_eq_getElem h2])⟩
theorem ObjR.ne_ {a : Addr} {o : Ob} (h : ObjR K ι H a o) : H a ≠ none := by
  cases o with
  | lst xs => obtain ⟨vs, e, _⟩ := h; rw [e]; exact fun z => by cases z
theorem HR.get {μ : Mu} (h : HR K ι μ H) {l : Nat} {a : Addr} (e : ι.l[l]? = some a) : ∃ o, μ[l]? = some o ∧ ObjR K ι H a o := by
  obtain ⟨hl, _⟩ := List.getElem?_eq_some_iff.mp e
  have h2 : l < μ.length := by rw [← h.len]; exact hl
  exact ⟨μ[l], List.getElem?_eq_getElem h2, h.obj l _ a (List.getElem?_eq_getElem h2) e⟩
theorem HR.fresh {μ : Mu} (h : HR K ι μ H) {p : Addr} (n : H p = none) : p ∉ ι.l := fun z => by
  obtain ⟨l, hl⟩ := List.getElem?_of_mem z
  obtain ⟨o, _, r⟩ := h.get hl
  exact r.ne_ n
/-- slots -/
def SR1 (K : PySem.W.Frag) (ι : Io) (H : Hp) : Option PV → Option V → Prop
  | none, _ => True
  | some x, o => ∃ v, o = some v ∧ Rep K ι H x v
def SR (K : PySem.W.Frag) (ι : Io) (H : Hp) : Rho → L2.St → Prop
  | [], σ => σ = []
  | x :: ρ, σ => ∃ v r, σ = v :: r ∧ SR1 K ι H x v ∧ SR K ι H ρ r
theorem SR1.grow (g : Grow K ι H ι' H') {x : Option PV} {v : Option V} (h : SR1 K ι H x v) : SR1 K ι' H' x v := by
  cases x with
  | none => trivial
  | some x => obtain ⟨u, e, r⟩ := h; exact ⟨u, e, r.grow g⟩
theorem SR.grow (g : Grow K ι H ι' H') : ∀ {ρ : Rho} {σ : L2.St}, SR K ι H ρ σ → SR K ι' H' ρ σ
  | [], _, h => h
  | _ :: _, _, ⟨v, r, e, h1, h2⟩ => ⟨v, r, e, h1.grow g, SR.grow g h2⟩
theorem SR.get : ∀ {ρ : Rho} {σ : L2.St} {i : Nat} {x : PV}, SR K ι H ρ σ → ρ[i]? = some (some x) → ∃ v, σ[i]? = some (some v) ∧ Rep K ι H x v
  | [], _, _, _, _, e => by simp at e
  | _ :: _, _, 0, _, ⟨v, r, e, h, _⟩, q => by
    simp at q; subst q; subst e
    obtain ⟨u, e2, h2⟩ := h
    subst e2
    exact ⟨u, rfl, h2⟩
  | _ :: _, _, i + 1, x, ⟨v, r, e, _, h⟩, q => by
    subst e
    obtain ⟨u, h1, h2⟩ := SR.get (i := i) h (by simpa using q)
    exact ⟨u, by simpa using h1, h2⟩
theorem SR.set {y : PV} {u : V} (hy : Rep K ι H y u) : ∀ {ρ : Rho} {σ : L2.St} (i : Nat), SR K ι H ρ σ → SR K ι H (ρ.set i (some y)) (σ.set i (some u))
  | [], _, _, h => by rw [show _ = [] from h]; rfl
  | _ :: _, _, 0, ⟨v, r, e, _, t⟩ => by subst e; exact ⟨some u, r, rfl, ⟨u, rfl, hy⟩, t⟩
  | _ :: _, _, i + 1, ⟨v, r, e, h, t⟩ => by subst e; exact ⟨v, _, rfl, h, SR.set hy i t⟩
theorem SR.unset : ∀ {ρ : Rho} {σ : L2.St} (i : Nat) (o : Option V), SR K ι H ρ σ → SR K ι H (ρ.set i none) (σ.set i o)
  | [], _, _, _, h => by rw [show _ = [] from h]; rfl
  | _ :: _, _, 0, o, ⟨v, r, e, _, t⟩ => by subst e; exact ⟨o, r, rfl, trivial, t⟩
  | _ :: _, _, i + 1, o, ⟨v, r, e, h, t⟩ => by subst e; exact ⟨v, _, rfl, h, SR.unset i o t⟩
theorem SR.length : ∀ {ρ : Rho} {σ : L2.St}, SR K ι H ρ σ → σ.length = ρ.length
  | [], _, h => by rw [show _ = [] from h]; rfl
  | _ :: _, _, ⟨v, r, e, _, h⟩ => by rw [e, List.length_cons, List.length_cons, SR.length h]

/-! ### heap moves -/
theorem sqT_upd_new {p : Addr} {o : HO} (n : H p = none) {a : Addr} {vs : List V} (h : SqT K H a vs) : SqT K (upd H p o) a vs := by
  rcases h with (h | ⟨ob, h⟩) | h
  · exact .inl (.inl (by rw [upd_ne (ne_of_none h n)]; exact h))
  · exact .inl (.inr ⟨ob, by rw [upd_ne (ne_of_none h n)]; exact h⟩)
  · exact .inr h
theorem sqT_upd_lst {p : Addr} {o : HO} {us : List V} (n : H p = some (.lst us)) {a : Addr} {vs : List V} (h : SqT K H a vs) : SqT K (upd H p o) a vs := by
  rcases h with (h | ⟨ob, h⟩) | h
  · exact .inl (.inl (by rw [upd_ne (ne_of h n (by intro z; cases z))]; exact h))
  · exact .inl (.inr ⟨ob, by rw [upd_ne (ne_of h n (by intro z; cases z))]; exact h⟩)
  · exact .inr h
theorem upd_ne_none {p a : Addr} {o : HO} (h : H a ≠ none) : upd H p o a ≠ none := by
  by_cases z : a = p
  · rw [z, upd_same]; exact fun q => by cases q
  · rw [upd_ne z]; exact h
/-- a new tuple (or another thing that no location names) -/
theorem grow_new {p : Addr} {o : HO} (n : H p = none) : Grow K ι H ι (upd H p o) := ⟨List.prefix_refl _, fun _ h => .inl h, fun _ h => h, fun _ h => upd_ne_none h, fun _ _ h => sqT_upd_new n h, fun a o u h => by rw [upd_ne (ne_of_none h n)]; exact h, fun a u _ h => by rw [upd_ne (ne_of_none h n)]; exact h, fun _ h => .inl h⟩
theorem ObjR.grow {a : Addr} {ob : Ob} (g : Grow K ι H ι' H') (k : ∀ u, H a = some u → H' a = some u) (q : ObjR K ι H a ob) : ObjR K ι' H' a ob := by
  cases ob with
  | lst xs =>
    obtain ⟨vs, e, r⟩ := q
    exact ⟨vs, k _ e, r.grow g⟩
theorem HR.new {μ : Mu} {p : Addr} {o : HO} (h : HR K ι μ H) (n : H p = none) : HR K ι μ (upd H p o) :=
  ⟨h.nd, h.len, fun a ha => upd_ne_none (h.gb a ha), fun l ob a e1 e2 => (h.obj l ob a e1 e2).grow (grow_new n) fun u e => by rw [upd_ne (ne_of_none e n)]; exact e⟩
/-- a new object -/
theorem grow_alloc {p : Addr} {o : HO} (n : H p = none) : Grow K ι H (ι.snoc p) (upd H p o) := ⟨List.prefix_append _ _, fun _ h => .inl h, fun _ h => h, fun _ h => upd_ne_none h, fun _ _ h => sqT_upd_new n h, fun a o u h => by rw [upd_ne (ne_of_none h n)]; exact h, fun a u _ h => by rw [upd_ne (ne_of_none h n)]; exact h, fun q hq => by
  rcases List.mem_append.mp hq with z | z
  · exact .inl z
  · have e : q = p := by simpa using z
    subst e; exact .inr n⟩
theorem app_nd {μ : Mu} {p : Addr} (h : HR K ι μ H) (np : p ∉ ι.l) : ∀ (l k : Nat) (a : Addr), (ι.snoc p).l[l]? = some a → (ι.snoc p).l[k]? = some a → l = k := by
  intro l k a e1 e2
  have sp : ∀ l : Nat, (ι.snoc p).l[l]? = some a → (ι.l[l]? = some a) ∨ (l = ι.l.length ∧ a = p) := by
    intro l e
    by_cases hl : l < ι.l.length
    · rw [show (ι.snoc p).l = ι.l ++ [p] from rfl, List.getElem?_append_left hl] at e; exact .inl e
    · have hl2 : l = ι.l.length := by
        obtain ⟨q, _⟩ := List.getElem?_eq_some_iff.mp e
        rw [show (ι.snoc p).l = ι.l ++ [p] from rfl, List.length_append] at q
        simp at q
        omega
      subst hl2
      rw [show (ι.snoc p).l = ι.l ++ [p] from rfl, List.getElem?_append_right (Nat.le_refl _)] at e
      simp at e
      exact .inr ⟨rfl, e.symm⟩
  rcases sp l e1 with a1 | ⟨a1, a2⟩ <;> rcases sp k e2 with b1 | ⟨b1, b2⟩
  · exact h.nd l k a a1 b1
  · subst b2; exact (np (List.mem_of_getElem? a1)).elim
  · subst a2; exact (np (List.mem_of_getElem? b1)).elim
  · rw [a1, b1]
theorem app_obj {μ : Mu} {p : Addr} {ob : Ob} (h : HR K ι μ H) {Q : Ob → Addr → Prop} (h1 : ∀ (l : Nat) (o : Ob) (a : Addr), μ[l]? = some o → ι.l[l]? = some a → Q o a) (h2 : Q ob p) : ∀ (l : Nat) (o : Ob) (a : Addr), (μ ++ [ob])[l]? = some o → (ι.snoc p).l[l]? = some a → Q o a := by
  intro l o a e1 e2
  by_cases hl : l < μ.length
  · rw [List.getElem?_append_left hl] at e1
    rw [snoc_l, List.getElem?_append_left (by rw [h.len]; exact hl)] at e2
    exact h1 l o a e1 e2
  · have hl2 : l = μ.length := by
      obtain ⟨q, _⟩ := List.getElem?_eq_some_iff.mp e1
      rw [List.length_append] at q
      simp at q
      omega
    subst hl2
    rw [List.getElem?_append_right (Nat.le_refl _)] at e1
    rw [snoc_l, List.getElem?_append_right (by rw [h.len]; exact Nat.le_refl _), h.len] at e2
    simp at e1 e2
    subst e1; subst e2
    exact h2
theorem HR.allocO {μ : Mu} {p : Addr} {o : HO} {ob : Ob} (h : HR K ι μ H) (n : H p = none) (r : ObjR K (ι.snoc p) (upd H p o) p ob) : HR K (ι.snoc p) (μ ++ [ob]) (upd H p o) := by
  have g : Grow K ι H (ι.snoc p) (upd H p o) := grow_alloc n
  exact ⟨app_nd h (h.fresh n), by rw [snoc_l, List.length_append, List.length_append, h.len]; rfl, fun a ha => upd_ne_none (h.gb a ha), app_obj h (fun l o a e1 e2 => (h.obj l o a e1 e2).grow g fun u e => by rw [upd_ne (ne_of_none e n)]; exact e) r⟩
theorem HR.alloc {μ : Mu} {p : Addr} {vs : List V} {xs : List PV} (h : HR K ι μ H) (n : H p = none) (r : RepL K ι H xs vs) : HR K (ι.snoc p) (μ ++ [.lst xs]) (upd H p (.lst vs)) :=
  h.allocO n ⟨vs, upd_same, r.grow (grow_alloc n)⟩
theorem alloc_ref {μ : Mu} {p : Addr} (h : HR K ι μ H) {H2 : Hp} : Rep K (ι.snoc p) H2 (.ref μ.length) (.ref p) := by
  refine ⟨p, rfl, ?_⟩
  rw [← h.len, snoc_l]
  simp
/-- a new list that is not written -/
theorem new_lst {μ : Mu} {p : Addr} {vs : List V} {xs : List PV} (h : HR K ι μ H) (n : H p = none) (r : RepL K ι H xs vs) : Rep K ι (upd H p (.lst vs)) (.lst xs) (.ref p) :=
  ⟨p, vs, rfl, ⟨upd_same, h.fresh n, fun z => h.gb p z n⟩, r.grow (grow_new n)⟩
/-- an object is rewritten -/
theorem grow_writeO {l : Nat} {p : Addr} {u o : HO} (hp : ι.l[l]? = some p) (n : H p = some u) (h1 : ∀ vs, u ≠ .tup vs) (h2 : ∀ o v, u ≠ .frz o v) : Grow K ι H ι (upd H p o) := ⟨List.prefix_refl _, fun _ h => .inl h, fun _ h => h, fun _ h => upd_ne_none h, fun a vs h => by
  rcases h with (h | ⟨ob, h⟩) | h
  · exact .inl (.inl (by rw [upd_ne (ne_of h n (fun z => h1 _ z.symm))]; exact h))
  · exact .inl (.inr ⟨ob, by rw [upd_ne (ne_of h n (fun z => h2 _ _ z.symm))]; exact h⟩)
  · exact .inr h, fun a ob v h => by rw [upd_ne (ne_of h n (fun z => h2 _ _ z.symm))]; exact h, fun a u hn h => by rw [upd_ne (fun z => hn (by rw [z]; exact List.mem_of_getElem? hp))]; exact h, fun _ h => .inl h⟩
/-- a list is rewritten -/
theorem grow_write {l : Nat} {p : Addr} {us vs : List V} (hp : ι.l[l]? = some p) (n : H p = some (.lst us)) : Grow K ι H ι (upd H p (.lst vs)) := grow_writeO hp n (fun _ z => by cases z) (fun _ _ z => by cases z)
theorem HR.writeO {μ : Mu} {l : Nat} {p : Addr} {o : HO} {ob : Ob} (h : HR K ι μ H) (g : Grow K ι H ι (upd H p o)) (hp : ι.l[l]? = some p) (r : ObjR K ι (upd H p o) p ob) : HR K ι (μ.set l ob) (upd H p o) := by
  obtain ⟨hl, _⟩ := List.getElem?_eq_some_iff.mp hp
  have hlm : l < μ.length := by rw [← h.len]; exact hl
  refine ⟨h.nd, by rw [List.length_set, h.len], fun a ha => upd_ne_none (h.gb a ha), fun k ob a e1 e2 => ?_⟩
  by_cases hk : l = k
  · subst hk
    rw [hp] at e2; cases e2
    rw [List.getElem?_set_self hlm] at e1
    cases e1
    exact r
  · rw [List.getElem?_set_ne hk] at e1
    have ne : a ≠ p := fun z => by
      subst z
      exact hk (h.nd _ _ a hp e2)
    exact (h.obj k ob a e1 e2).grow g fun u e => by rw [upd_ne ne]; exact e
theorem HR.write {μ : Mu} {l : Nat} {p : Addr} {us vs : List V} {xs us' : List PV} (h : HR K ι μ H) (hw : μ[l]? = some (.lst us')) (hp : ι.l[l]? = some p) (n : H p = some (.lst us)) (r : RepL K ι H xs vs) : HR K ι (μ.set l (.lst xs)) (upd H p (.lst vs)) :=
  h.writeO (grow_write hp n) hp ⟨vs, upd_same, r.grow (grow_write hp n)⟩
end

/-! ### lifting -/
abbrev WE := Ex → Io → Mu → Hp → Prop
def Post {α β : Type} (K : PySem.W.Frag) (W : WE) (Rr : Io → Hp → α → β → Prop) (ι : Io) (H : Hp) (r : R α) (Q : β → Hp → Prop) : Prop := match r with
  | .ok a μ' => ∀ v ι' H', Grow K ι H ι' H' → HR K ι' μ' H' → Rr ι' H' a v → Q v H'
  | .exc e μ' => ∀ ι' H', Grow K ι H ι' H' → HR K ι' μ' H' → W e ι' μ' H'
  | .bad => False
section
variable {α β γ δ : Type} {K : PySem.W.Frag} {W : WE} {Rr : Io → Hp → α → β → Prop} {Rg : Io → Hp → γ → δ → Prop} {ι ι1 : Io} {H H1 : Hp}
theorem Post.mono {r : R α} {Q Q' : β → Hp → Prop} (h : Post K W Rr ι H r Q) (m : ∀ v H', Q v H' → Q' v H') : Post K W Rr ι H r Q' := by
  cases r with
  | ok a μ => exact fun v ι' H' g hr rr => m v H' (h v ι' H' g hr rr)
  | exc e μ => exact h
  | bad => exact h
theorem Post.rebase {r : R α} {Q : β → Hp → Prop} (h : Post K W Rr ι H r Q) (g : Grow K ι H ι1 H1) : Post K W Rr ι1 H1 r Q := by
  cases r with
  | ok a μ => exact fun v ι' H' g' hr rr => h v ι' H' (g.trans g') hr rr
  | exc e μ => exact fun ι' H' g' hr => h ι' H' (g.trans g') hr
  | bad => exact h
theorem Post.bind {r : R α} {f : α → Mu → R γ} {Q : δ → Hp → Prop} (h : Post K W Rg ι H (r.bind f) Q) :
    Post K W Rr ι H r fun v H1 => ∃ a μ1 ι1, Grow K ι H ι1 H1 ∧ HR K ι1 μ1 H1 ∧ Rr ι1 H1 a v ∧ Post K W Rg ι1 H1 (f a μ1) Q := by
  cases r with
  | ok a μ => exact fun v ι' H' g hr rr => ⟨a, μ, ι', g, hr, rr, Post.rebase h g⟩
  | exc e μ => exact h
  | bad => exact h
theorem Post.ok {a : α} {μ : Mu} {v : β} {Q : β → Hp → Prop} (h : Post K W Rr ι H (.ok a μ) Q) (hr : HR K ι μ H) (rr : Rr ι H a v) : Q v H := h v ι H .refl hr rr
theorem Post.at_ {a : α} {μ : Mu} {v : β} {Q : β → Hp → Prop} (h : Post K W Rr ι H (.ok a μ) Q) (g : Grow K ι H ι1 H1) (hr : HR K ι1 μ H1) (rr : Rr ι1 H1 a v) : Q v H1 := h v ι1 H1 g hr rr
end
abbrev Dn (α : Type) := Rho → Mu → R α
abbrev WS := L2.St → WE
def lift {α β : Type} (K : PySem.W.Frag) (W : WS) (Rr : Io → Hp → α → β → Prop) (d : Dn α) : L2.St → Hp → (β → Hp → Prop) → Prop := fun σ H Q =>
  ∃ ρ μ ι, SR K ι H ρ σ ∧ HR K ι μ H ∧ Post K (W σ) Rr ι H (d ρ μ) Q
abbrev LE (K : PySem.W.Frag) (W : WS) (d : Dn PV) : TE := lift K W (fun ι H => Rep K ι H) d
abbrev LA (K : PySem.W.Frag) (W : WS) (d : Dn (List PV)) : TA := lift K W (fun ι H => RepL K ι H) d
abbrev LT (K : PySem.W.Frag) (W : WS) (d : Dn Bool) : TT := lift K W (fun _ _ a b => a = b) d

section
variable {X : Cx}
theorem _root_.L2.PE.mono {e : Expr} {t t' : TE} (h : PE X e t) (m : ∀ σ H Q, t' σ H Q → t σ H Q) : PE X e t' := ⟨fun pins s σ H Q I q => h.run pins s σ H Q I (m _ _ _ q)⟩
theorem _root_.L2.PT.mono {e : Expr} {t t' : TT} (h : PT X e t) (m : ∀ σ H Q, t' σ H Q → t σ H Q) : PT X e t' := ⟨fun pins s σ H Q I q => h.run pins s σ H Q I (m _ _ _ q)⟩
theorem _root_.L2.PW.mono {e : Expr} {t t' : TT} (h : PW X e t) (m : ∀ σ H Q, t' σ H Q → t σ H Q) : PW X e t' := ⟨fun wh pins s σ H Q I q => h.run wh pins s σ H Q I (m _ _ _ q)⟩
theorem _root_.L2.PA.mono {es : List Expr} {t t' : TA} (h : PA X es t) (m : ∀ σ H Q, t' σ H Q → t σ H Q) : PA X es t' := ⟨fun p pins s σ H Q I q => h.run p pins s σ H Q I (m _ _ _ q)⟩
theorem _root_.L2.PS.mono {st : Stmt} {t t' : TS} (h : PS X st t) (m : ∀ D σ H, t' D σ H → t D σ H) : PS X st t' := ⟨fun pins s σ H D I q => h.run pins s σ H D I (m _ _ _ q)⟩
theorem _root_.L2.PSs.mono {st : List Stmt} {t t' : TS} (h : PSs X st t) (m : ∀ D σ H, t' D σ H → t D σ H) : PSs X st t' := ⟨fun pins s σ H D I q => h.run pins s σ H D I (m _ _ _ q)⟩
theorem _root_.L2.PTs.mono {st : List Expr} {t t' : TT} (h : PTs X st t) (m : ∀ σ H Q, t' σ H Q → t σ H Q) : PTs X st t' := ⟨fun pins s σ H Q I q => h.run pins s σ H Q I (m _ _ _ q)⟩
theorem _root_.L2.PG.mono {e : Expr} {t t' : TG} (h : PG X e t) (m : ∀ v σ H Q, t' v σ H Q → t v σ H Q) : PG X e t' := by
  obtain ⟨h⟩ := h
  constructor
  intros
  first | (apply h <;> first | assumption | (apply m; assumption)) | skip
end
end GB
set_option Elab.async false
set_option linter.all false
set_option maxRecDepth 100000
set_option maxHeartbeats 2000000
namespace GB
open PySem PySem.Spec PyProof.Rows L2
/-! ### expressions: denotations -/
def dVar (i : Nat) : Dn PV := fun ρ μ => match ρ[i]? with
  | some (some v) => .ok v μ
  | _ => .bad
def dC (v : PV) : Dn PV := fun _ μ => .ok v μ
def dNil : Dn (List PV) := fun _ μ => .ok [] μ
def dCons (a : Dn PV) (r : Dn (List PV)) : Dn (List PV) := fun ρ μ => (a ρ μ).bind fun x μ => (r ρ μ).bind fun xs μ => .ok (x :: xs) μ
def line : Nat := 16777216
theorem line_eq : line = sizeLine := by rw [sizeLine_eq]; rfl
def dTup (a : Dn (List PV)) : Dn PV := fun ρ μ => (a ρ μ).bind fun xs μ => if xs.length ≤ 16777216 then .ok (.tup xs) μ else .bad
def dLst (a : Dn (List PV)) : Dn PV := fun ρ μ => (a ρ μ).bind fun xs μ => if xs.length ≤ 16777216 then .ok (.ref μ.length) (μ ++ [.lst xs]) else .bad
def dOp (f : PV → PV → Mu → R PV) (a b : Dn PV) : Dn PV := fun ρ μ => (a ρ μ).bind fun x μ => (b ρ μ).bind fun y μ => f x y μ
def dUn (f : PV → Mu → R PV) (a : Dn PV) : Dn PV := fun ρ μ => (a ρ μ).bind fun x μ => f x μ
def dApp (f : List PV → Mu → R PV) (a : Dn (List PV)) : Dn PV := fun ρ μ => (a ρ μ).bind fun xs μ => f xs μ
def asB (d : Dn PV) : Dn Bool := fun ρ μ => (d ρ μ).bind fun v μ => match v with
  | .bl k => .ok k μ
  | _ => .bad
/-- the list at a location -/
def getL (μ : Mu) (l : Nat) : Option (List PV) := match μ[l]? with
  | some (.lst xs) => some xs
  | none => none
/-- the list that may be written -/
abbrev getM := getL
/-- the items of a list, written or not -/
def lstP (x : PV) (μ : Mu) : Option (List PV) := match x with
  | .lst xs => some xs
  | .ref l => getL μ l
  | _ => none
def fTru (x : PV) (μ : Mu) : Option Bool := match x with
  | .non => some false
  | .bl b => some b
  | .int i => some (i != 0)
  | .str y => if y.length ≤ 16777216 then some ((y.length : Int) != 0) else none
  | .tup xs => some (!xs.isEmpty)
  | .lst xs => some (!xs.isEmpty)
  | .scr _ => none
  | .ref l => (getL μ l).map fun xs => !xs.isEmpty
  | .raw _ => none
def dTru (d : Dn PV) : Dn Bool := fun ρ μ => (d ρ μ).bind fun v μ => match fTru v μ with
  | some k => .ok k μ
  | none => .bad
def dOr (a b : Dn PV) : Dn PV := fun ρ μ => (a ρ μ).bind fun x μ => match fTru x μ with
  | some true => .ok x μ
  | some false => b ρ μ
  | none => .bad
def dAnd (a b : Dn PV) : Dn PV := fun ρ μ => (a ρ μ).bind fun x μ => match fTru x μ with
  | some true => b ρ μ
  | some false => .ok x μ
  | none => .bad
def dNot (a : Dn PV) : Dn PV := fun ρ μ => (a ρ μ).bind fun x μ => match fTru x μ with
  | some k => .ok (.bl (!k)) μ
  | none => .bad
def dAndB (a b : Dn Bool) : Dn Bool := fun ρ μ => (a ρ μ).bind fun k μ => if k = true then b ρ μ else .ok false μ
def dOrB (a b : Dn Bool) : Dn Bool := fun ρ μ => (a ρ μ).bind fun k μ => if k = true then .ok true μ else b ρ μ
def dNotB (a : Dn Bool) : Dn Bool := fun ρ μ => (a ρ μ).bind fun k μ => .ok (!k) μ
def dIf (t : Dn Bool) (a b : Dn PV) : Dn PV := fun ρ μ => (t ρ μ).bind fun k μ => if k = true then a ρ μ else b ρ μ

/-! ### operators by values -/
def bits64 : Nat := 18446744073709551616
def mulOk (i j : Int) : Bool := Nat.blt i.natAbs 18446744073709551616 || Nat.blt j.natAbs 18446744073709551616 || Nat.blt (i.natAbs.log2 + j.natAbs.log2) 134000000
def fAdd (x y : PV) (μ : Mu) : R PV := match x, y with
  | .int i, .int j => .ok (.int (i + j)) μ
  | .str a, .str b => if a.length + b.length ≤ 16777216 then .ok (.str (a ++ b)) μ else .bad
  | .tup a, .tup b => if a.length + b.length ≤ 16777216 then .ok (.tup (a ++ b)) μ else .bad
  | x, y => match lstP x μ, lstP y μ with
    | some a, some b => if a.length + b.length ≤ 16777216 then .ok (.lst (a ++ b)) μ else .bad
    | _, _ => .bad
def fSub (x y : PV) (μ : Mu) : R PV := match x, y with
  | .int i, .int j => .ok (.int (i - j)) μ
  | _, _ => .bad
def fMulI (x y : PV) (μ : Mu) : R PV := match x, y with
  | .int i, .int j => if mulOk i j then .ok (.int (i * j)) μ else .bad
  | _, _ => .bad
def fDiv (x y : PV) (μ : Mu) : R PV := match x, y with
  | .int i, .int j => if decide (0 < j) && Nat.blt j.natAbs.log2 9000 then .ok (.int (i / j)) μ else .bad
  | _, _ => .bad
def fMod (x y : PV) (μ : Mu) : R PV := match x, y with
  | .int i, .int j => if 0 < j then .ok (.int (i % j)) μ else .bad
  | _, _ => .bad
def fPow (x y : PV) (μ : Mu) : R PV := match x, y with
  | .int i, .int j => if decide (0 ≤ j) && decide (j ≤ 1000000) && Nat.blt i.natAbs 18446744073709551616 then .ok (.int (i ^ j.toNat)) μ else .bad
  | _, _ => .bad
def fNeg (x : PV) (μ : Mu) : R PV := match x with
  | .int i => .ok (.int (-i)) μ
  | _ => .bad
def fCmp (p : Int → Int → Bool) (x y : PV) (μ : Mu) : R PV := match x, y with
  | .int i, .int j => .ok (.bl (p i j)) μ
  | _, _ => .bad
abbrev fLt := fCmp fun i j => decide (i < j)
abbrev fLe := fCmp fun i j => decide (i ≤ j)
abbrev fGt := fCmp fun i j => decide (j < i)
abbrev fGe := fCmp fun i j => decide (j ≤ i)
mutual
def toD (μ : Mu) : Nat → PV → Option PyData
  | 0, _ => none
  | _ + 1, .non => some .none
  | _ + 1, .bl b => some (.bool b)
  | _ + 1, .int i => some (.int i)
  | _ + 1, .str x => some (.str x)
  | n + 1, .tup xs => (toDL μ n xs).map .tuple
  | n + 1, .lst xs => (toDL μ n xs).map .list
  | n + 1, .ref l => (getL μ l).bind fun xs => (toDL μ n xs).map .list
  | _ + 1, .raw _ => none
  | _ + 1, .scr _ => none
def toDL (μ : Mu) : Nat → List PV → Option (List PyData)
  | 0, _ => none
  | _ + 1, [] => some []
  | n + 1, x :: xs => (toD μ n x).bind fun d => (toDL μ n xs).map fun ds => d :: ds
end
def eqB (x y : PV) (μ : Mu) : Option Bool := match x, y with
  | .int i, .int j => some (decide (i = j))
  | .bl i, .bl j => some (i == j)
  | .non, .non => some true
  | .int _, .non => some false
  | .non, .int _ => some false
  | x, y => match toD μ 1000 x, toD μ 1000 y with
    | some d, some e => if SeqAt.shaped d && SeqAt.shaped e then some (PyData.eqv d e) else none
    | _, _ => none
def fEq (x y : PV) (μ : Mu) : R PV := match eqB x y μ with
  | some k => .ok (.bl k) μ
  | none => .bad
def fNe (x y : PV) (μ : Mu) : R PV := match eqB x y μ with
  | some k => .ok (.bl (!k)) μ
  | none => .bad
def fIsN (x : PV) (μ : Mu) : R PV := match x with
  | .non => .ok (.bl true) μ
  | .raw _ => .bad
  | _ => .ok (.bl false) μ
def fNotN (x : PV) (μ : Mu) : R PV := match x with
  | .non => .ok (.bl false) μ
  | .raw _ => .bad
  | _ => .ok (.bl true) μ
def fIx (x y : PV) (μ : Mu) : R PV := match x, y with
  | .tup xs, .int i => match atI xs i with
    | some v => .ok v μ
    | none => .bad
  | .lst xs, .int i => match atI xs i with
    | some v => .ok v μ
    | none => .bad
  | .ref l, .int i => match (getL μ l).bind fun xs => atI xs i with
    | some v => .ok v μ
    | none => .bad
  | .str z, .int i => if z.length ≤ 16777216 then (match atI z.cps.toList i with
    | some c => .ok (.str ⟨#[c]⟩) μ
    | none => .bad) else .bad
  | _, _ => .bad

/-! ### lists read -/
section
variable {K : PySem.W.Frag} {W : WE} {ι : Io} {μ : Mu} {H : Hp} {l : Nat} {xs : List PV}
theorem getL_of (e : getL μ l = some xs) : μ[l]? = some (.lst xs) := by
  unfold getL at e
  cases q : μ[l]? with
  | none => rw [q] at e; cases e
  | some o =>
    rw [q] at e
    cases o with
    | lst ys => cases e; rfl
theorem getM_of (e : getM μ l = some xs) : μ[l]? = some (.lst xs) := getL_of e
theorem getM_at (h : HR K ι μ H) (e : getM μ l = some xs) : ∃ a vs, ι.l[l]? = some a ∧ H a = some (.lst vs) ∧ RepL K ι H xs vs := by
  obtain ⟨a, h1, vs, h2, h3⟩ := h.at_ (getM_of e)
  exact ⟨a, vs, h1, h2, h3⟩
theorem getL_sq (h : HR K ι μ H) (e : getL μ l = some xs) : ∃ a vs, ι.l[l]? = some a ∧ SqL K H a vs ∧ RepL K ι H xs vs ∧ H a = some (.lst vs) := by
  obtain ⟨a, vs, h1, h2, h3⟩ := getM_at h e
  exact ⟨a, vs, h1, .of h2, h3, h2⟩
theorem RoL.sq {a : Addr} {vs : List V} (h : RoL K H a vs) : SqL K H a vs := by
  rcases h with ⟨o, h⟩ | h
  · exact .inl (.inr ⟨o, h⟩)
  · exact .inr h
/-- a list, written or not -/
theorem lstP_sq {x : PV} {v : V} (h : HR K ι μ H) (r : Rep K ι H x v) (e : lstP x μ = some xs) : ∃ a vs, v = .ref a ∧ SqL K H a vs ∧ RepL K ι H xs vs ∧ H a = some (.lst vs) := by
  unfold lstP at e
  split at e
  · cases e
    obtain ⟨a, vs, h1, h2, h3⟩ := r
    exact ⟨a, vs, h1, .of h2.1, h3, h2.1⟩
  · obtain ⟨a, vs, h1, h2, h3, h4⟩ := getL_sq h e
    obtain ⟨b, k1, k2⟩ := r
    rw [h1] at k2
    cases k2
    exact ⟨a, vs, k1, h2, h3, h4⟩
  · cases e
theorem atI_rep {K : PySem.W.Frag} {ι : Io} {H : Hp} {xs : List PV} {vs : List V} {i : Int} {x : PV} (r : RepL K ι H xs vs) (e : atI xs i = some x) : ∃ v, atI vs i = some v ∧ Rep K ι H x v := by
  unfold atI at e ⊢
  rw [r.length]
  cases q : ixN xs.length i with
  | none => rw [q] at e; cases e
  | some j =>
    rw [q] at e
    have e' : xs[j]? = some x := e
    obtain ⟨v, h1, h2⟩ := r.get e'
    exact ⟨v, h1, h2⟩
theorem ref_eq {l : Nat} {v : V} {a : Addr} (h : Rep K ι H (.ref l) v) (e : ι.l[l]? = some a) : v = .ref a := by
  obtain ⟨b, h1, h2⟩ := h
  rw [e] at h2
  cases h2
  exact h1
theorem tru_of {x : PV} {v : V} {k : Bool} (h : HR K ι μ H) (r : Rep K ι H x v) (e : fTru x μ = some k) : TruV K v H k := by
  cases x with
  | non => cases r; cases e; rfl
  | bl b => cases r; cases e; rfl
  | int i => cases r; cases e; rfl
  | str y =>
    cases r
    unfold fTru at e
    simp only at e
    split at e
    · rename_i hy
      cases e
      exact ⟨by rw [← line_eq]; exact hy, rfl⟩
    · cases e
  | tup ys =>
    obtain ⟨a, vs, rfl, s, r⟩ := r
    cases e
    refine .inr (.inl ⟨vs, s, ?_⟩)
    have := r.length
    cases vs <;> cases ys <;> simp_all
  | lst ys =>
    obtain ⟨a, vs, rfl, s, r⟩ := r
    cases e
    refine .inl ⟨vs, .of s.1, ?_⟩
    have := r.length
    cases vs <;> cases ys <;> simp_all
  | ref l =>
    unfold fTru at e
    simp only at e
    cases q : getL μ l with
    | none => rw [q] at e; cases e
    | some ys =>
      rw [q] at e
      cases e
      obtain ⟨a, vs, h1, h2, h3, _⟩ := getL_sq h q
      obtain rfl := ref_eq r h1
      refine .inl ⟨vs, h2, ?_⟩
      have := h3.length
      cases vs <;> cases ys <;> simp_all
  | scr _ => cases e
  | raw u => cases e
end

/-! ### rules -/
section
variable {X : Cx} {W : WS} {a b : Expr} {da db dc : Dn PV} {es : List Expr} {dl : Dn (List PV)} {pos : Pos} {rest : List Expr}
theorem e_var (i : Nat) {x : Str} (hN : X.N[i]? = some x := by rfl) (hv : Vis X.env.scope x := by first | exact Or.inl rfl | exact Or.inr (Or.inl rfl) | exact Or.inr (Or.inr rfl)) (hd : (x == ("__debug__" : Str)) = false := by decide)
    (hcd : (x == ("__classdict__" : Str)) = false := by decide) : PE X (.Name x pos) (LE X.K W (dVar i)) := by
  refine (pe_var hN hv hd hcd).mono fun σ H Q ⟨ρ, μ, ι, sr, hr, h⟩ => ?_
  unfold dVar at h
  split at h
  · rename_i v e
    obtain ⟨u, h1, h2⟩ := sr.get e
    exact ⟨u, h1, h.ok hr h2⟩
  · exact h.elim
theorem e_int {i : Int} {j} : PE X (.Constant (.int i) j pos) (LE X.K W (dC (.int i))) := pe_int.mono fun σ H Q ⟨ρ, μ, ι, sr, hr, h⟩ => h.ok hr rfl
theorem e_bl {b : Bool} {j} : PE X (.Constant (.bool b) j pos) (LE X.K W (dC (.bl b))) := pe_bl.mono fun σ H Q ⟨ρ, μ, ι, sr, hr, h⟩ => h.ok hr rfl
theorem e_non {j} : PE X (.Constant .none j pos) (LE X.K W (dC .non)) := pe_non.mono fun σ H Q ⟨ρ, μ, ι, sr, hr, h⟩ => h.ok hr rfl
theorem e_str {x : Str} {j} : PE X (.Constant (.str x) j pos) (LE X.K W (dC (.str x))) := pe_str.mono fun σ H Q ⟨ρ, μ, ι, sr, hr, h⟩ => h.ok hr rfl
/-- a module's int -/
theorem e_globI {x : Str} {i : Int} {t : Tok} (hg : Gl X x) (hm : X.mg x = some (.int i t)) (hd : (x == ("__debug__" : Str)) = false := by decide) : PE X (.Name x pos) (LE X.K W (dC (.int i))) :=
  (pe_glob (v := .int i) hg hm ⟨t, rfl⟩ hd).mono fun σ H Q ⟨ρ, μ, ι, sr, hr, h⟩ => h.ok hr rfl
theorem e_globS {x y : Str} {t : Tok} (hg : Gl X x) (hm : X.mg x = some (.str y t)) (hd : (x == ("__debug__" : Str)) = false := by decide) : PE X (.Name x pos) (LE X.K W (dC (.str y))) :=
  (pe_glob (v := .str y) hg hm ⟨t, rfl⟩ hd).mono fun σ H Q ⟨ρ, μ, ι, sr, hr, h⟩ => h.ok hr rfl
/-- a built-in type as a value -/
theorem e_ty {x : Str} {T : String} (hg : Gl X x) (hm : X.mg x = none) (hv : bootBuiltins x = some (.type T)) (hn : x ≠ "__name__" := by decide) (hd : (x == ("__debug__" : Str)) = false := by decide) : PE X (.Name x pos) (LE X.K W (dC (.raw (.ty T)))) :=
  (pe_bltn (v := .ty T) hg hm hv rfl hn hd).mono fun σ H Q ⟨ρ, μ, ι, sr, hr, h⟩ => h.ok hr rfl
theorem a_nil : PA X [] (LA X.K W dNil) := pa_nil.mono fun σ H Q ⟨ρ, μ, ι, sr, hr, h⟩ => h.ok hr RepL.nil_
theorem a_cons (ha : PE X a (LE X.K W da)) (hr : PA X es (LA X.K W dl)) (hs : starEach (a :: es) X.env = (false, eval a X.env) :: starEach es X.env := by rfl) : PA X (a :: es) (LA X.K W (dCons da dl)) := by
  refine (pa_cons ha hr hs).mono fun σ H Q ⟨ρ, μ, ι, sr, hr, h⟩ => ?_
  refine ⟨ρ, μ, ι, sr, hr, Post.mono (Post.bind h) ?_⟩
  rintro v H1 ⟨x, μ1, ι1, g1, hr1, r1, h1⟩
  refine ⟨ρ, μ1, ι1, sr.grow g1, hr1, Post.mono (Post.bind h1) ?_⟩
  rintro u H2 ⟨y, μ2, ι2, g2, hr2, r2, h2⟩
  exact h2.ok hr2 (.cons_ (r1.grow g2) r2)
theorem e_tup {x1} (h : PA X es (LA X.K W dl)) : PE X (.Tuple es x1 pos) (LE X.K W (dTup dl)) := by
  refine (pe_tup h).mono fun σ H Q ⟨ρ, μ, ι, sr, hr, h⟩ => ?_
  refine ⟨ρ, μ, ι, sr, hr, Post.mono (Post.bind h) ?_⟩
  rintro vs H1 ⟨xs, μ1, ι1, g1, hr1, r1, h1⟩
  split at h1
  · rename_i hz
    refine ⟨by rw [r1.length, ← line_eq]; exact hz, fun p hp => ?_⟩
    have g : Grow X.K ι1 H1 ι1 (upd H1 p (.tup vs)) := grow_new hp
    exact h1.at_ g (hr1.new hp) ⟨p, vs, rfl, .of upd_same, r1.grow g⟩
  · exact h1.elim
theorem e_lst (h : PA X es (LA X.K W dl)) : PE X (.List es pos) (LE X.K W (dLst dl)) := by
  refine (pe_lst h).mono fun σ H Q ⟨ρ, μ, ι, sr, hr, h⟩ => ?_
  refine ⟨ρ, μ, ι, sr, hr, Post.mono (Post.bind h) ?_⟩
  rintro vs H1 ⟨xs, μ1, ι1, g1, hr1, r1, h1⟩
  split at h1
  · rename_i hz
    refine ⟨by rw [r1.length, ← line_eq]; exact hz, fun p hp => ?_⟩
    exact h1.at_ (grow_alloc hp) (hr1.alloc hp r1) (alloc_ref hr1)
  · exact h1.elim

/-- a display that is never written -/
def dLstI (a : Dn (List PV)) : Dn PV := fun ρ μ => (a ρ μ).bind fun xs μ => if xs.length ≤ 16777216 then .ok (.lst xs) μ else .bad
theorem e_lstI (h : PA X es (LA X.K W dl)) : PE X (.List es pos) (LE X.K W (dLstI dl)) := by
  refine (pe_lst h).mono fun σ H Q ⟨ρ, μ, ι, sr, hr, h⟩ => ?_
  refine ⟨ρ, μ, ι, sr, hr, Post.mono (Post.bind h) ?_⟩
  rintro vs H1 ⟨xs, μ1, ι1, g1, hr1, r1, h1⟩
  split at h1
  · rename_i hz
    refine ⟨by rw [r1.length, ← line_eq]; exact hz, fun p hp => ?_⟩
    exact h1.at_ (grow_new hp) (hr1.new hp) (new_lst hr1 hp r1)
  · exact h1.elim

/-- an operation by values, told over my values -/
def OpL (K : PySem.W.Frag) (f : PV → PV → Mu → R PV) (r : R2) : Prop := ∀ (W : WE) ι μ H a b x y Q, HR K ι μ H → Rep K ι H a x → Rep K ι H b y → Post K W (fun ι H => Rep K ι H) ι H (f a b μ) Q → r x y H Q
def UnL (K : PySem.W.Frag) (f : PV → Mu → R PV) (r : V → Hp → VK → Prop) : Prop := ∀ (W : WE) ι μ H a x Q, HR K ι μ H → Rep K ι H a x → Post K W (fun ι H => Rep K ι H) ι H (f a μ) Q → r x H Q
def ApL (K : PySem.W.Frag) (f : List PV → Mu → R PV) (r : List V → Hp → VK → Prop) : Prop := ∀ (W : WE) ι μ H as xs Q, HR K ι μ H → RepL K ι H as xs → Post K W (fun ι H => Rep K ι H) ι H (f as μ) Q → r xs H Q
theorem lift_op {K : PySem.W.Frag} {f : PV → PV → Mu → R PV} {r : R2} (hl : OpL K f r) {σ : L2.St} {H : Hp} {Q : VK} (h : LE K W (dOp f da db) σ H Q) : tOp r (LE K W da) (LE K W db) σ H Q := by
  obtain ⟨ρ, μ, ι, sr, hr, h⟩ := h
  refine ⟨ρ, μ, ι, sr, hr, Post.mono (Post.bind h) ?_⟩
  rintro v H1 ⟨x, μ1, ι1, g1, hr1, r1, h1⟩
  refine ⟨ρ, μ1, ι1, sr.grow g1, hr1, Post.mono (Post.bind h1) ?_⟩
  rintro u H2 ⟨y, μ2, ι2, g2, hr2, r2, h2⟩
  exact hl _ _ _ _ _ _ _ _ _ hr2 (r1.grow g2) r2 h2
theorem e_op {op : Operator} {f : PV → PV → Mu → R PV} {r : R2} (ho : OpR X (binaryOp op) r) (hl : OpL X.K f r) (ha : PE X a (LE X.K W da)) (hb : PE X b (LE X.K W db)) : PE X (.BinOp a op b pos) (LE X.K W (dOp f da db)) :=
  (pe_op ho ha hb).mono fun σ H Q h => lift_op hl h
theorem e_un {op : UnaryOp} {f : PV → Mu → R PV} {r : V → Hp → VK → Prop} (ho : UnR X (unaryOp op) r) (hl : UnL X.K f r) (ha : PE X a (LE X.K W da)) : PE X (.UnaryOp op a pos) (LE X.K W (dUn f da)) := by
  refine (pe_un ho ha).mono fun σ H Q ⟨ρ, μ, ι, sr, hr, h⟩ => ?_
  refine ⟨ρ, μ, ι, sr, hr, Post.mono (Post.bind h) ?_⟩
  rintro v H1 ⟨x, μ1, ι1, g1, hr1, r1, h1⟩
  exact hl _ _ _ _ _ _ _ hr1 r1 h1
theorem e_cmp {op : CmpOp} {f : PV → PV → Mu → R PV} {r : R2} (ho : OpR X (compareOp op) r) (hl : OpL X.K f r) (ha : PE X a (LE X.K W da)) (hb : PE X b (LE X.K W db)) (hm : behindInMarks op b = false) : PE X (.Compare a [op] [b] pos) (LE X.K W (dOp f da db)) :=
  (pe_cmpR ho ha hb hm).mono fun σ H Q h => lift_op hl h
theorem asB_bind {K : PySem.W.Frag} {W : WE} {ι : Io} {H : Hp} {r : R PV} {Q : Bool → Hp → Prop}
    (h : Post K W (fun _ _ a b => a = b) ι H (r.bind fun v μ => match v with | .bl k => .ok k μ | _ => .bad) Q) :
    Post K W (fun ι H => Rep K ι H) ι H r fun x H' => ∃ k, x = .bl k ∧ Q k H' := by
  refine Post.mono (Post.bind h) ?_
  rintro v H1 ⟨x, μ1, ι1, g1, hr1, r1, h1⟩
  cases x with
  | bl k => exact ⟨k, r1, h1.ok hr1 rfl⟩
  | _ => exact h1.elim
theorem dOp_eq {f : PV → PV → Mu → R PV} {ρ : Rho} {μ : Mu} {γ : Type} (k : PV → Mu → R γ) : (dOp f da db ρ μ).bind k = (da ρ μ).bind fun x μ => (db ρ μ).bind fun y μ => (f x y μ).bind k := by
  unfold dOp
  cases da ρ μ with
  | ok x μ1 =>
    simp only [R.bind_ok]
    cases db ρ μ1 <;> rfl
  | exc e μ1 => rfl
  | bad => rfl
theorem t_cmp {op : CmpOp} {f : PV → PV → Mu → R PV} {r : R2} (ho : OpR X (compareOp op) r) (hl : OpL X.K f r) (ha : PE X a (LE X.K W da)) (hb : PE X b (LE X.K W db)) (hm : behindInMarks op b = false) : PT X (.Compare a [op] [b] pos) (LT X.K W (asB (dOp f da db))) := by
  refine (pt_cmpR ho ha hb hm).mono fun σ H Q ⟨ρ, μ, ι, sr, hr, h⟩ => ?_
  have h' := asB_bind h
  exact lift_op hl ⟨ρ, μ, ι, sr, hr, h'⟩
theorem t_val (ha : PE X a (LE X.K W da)) (he : ∀ whole, isTrue a X.env whole = (do let v ← whole; standAt a.pos; holding [v] (truthy v)) := by intro _; rfl) : PT X a (LT X.K W (asB da)) := by
  refine (pt_val ha he).mono fun σ H Q ⟨ρ, μ, ι, sr, hr, h⟩ => ?_
  exact ⟨ρ, μ, ι, sr, hr, asB_bind h⟩
theorem t_truth (ha : PE X a (LE X.K W da)) (he : ∀ whole, isTrue a X.env whole = (do let v ← whole; standAt a.pos; holding [v] (truthy v)) := by intro _; rfl) : PT X a (LT X.K W (dTru da)) := by
  refine (pt_truth ha he).mono fun σ H Q ⟨ρ, μ, ι, sr, hr, h⟩ => ?_
  refine ⟨ρ, μ, ι, sr, hr, Post.mono (Post.bind h) ?_⟩
  rintro v H1 ⟨x, μ1, ι1, g1, hr1, r1, h1⟩
  cases e : fTru x μ1 with
  | none => rw [e] at h1; exact h1.elim
  | some k => rw [e] at h1; exact ⟨k, tru_of hr1 r1 e, h1.ok hr1 rfl⟩
theorem e_one {op} (h : PE X a (LE X.K W da)) : PE X (.BoolOp op [a] pos) (LE X.K W da) := pe_one h
theorem e_or (ha : PE X a (LE X.K W da)) (hb : PE X (.BoolOp .Or (b :: rest) pos) (LE X.K W db)) : PE X (.BoolOp .Or (a :: b :: rest) pos) (LE X.K W (dOr da db)) := by
  refine (pe_orT ha hb).mono fun σ H Q ⟨ρ, μ, ι, sr, hr, h⟩ => ?_
  refine ⟨ρ, μ, ι, sr, hr, Post.mono (Post.bind h) ?_⟩
  rintro v H1 ⟨x, μ1, ι1, g1, hr1, r1, h1⟩
  cases e : fTru x μ1 with
  | none => rw [e] at h1; exact h1.elim
  | some k =>
    rw [e] at h1
    refine ⟨k, tru_of hr1 r1 e, ?_⟩
    cases k with
    | true => rw [if_pos rfl]; exact h1.ok hr1 r1
    | false => rw [if_neg Bool.false_ne_true]; exact ⟨ρ, μ1, ι1, sr.grow g1, hr1, h1⟩
theorem e_and (ha : PE X a (LE X.K W da)) (hb : PE X (.BoolOp .And (b :: rest) pos) (LE X.K W db)) : PE X (.BoolOp .And (a :: b :: rest) pos) (LE X.K W (dAnd da db)) := by
  refine (pe_andT ha hb).mono fun σ H Q ⟨ρ, μ, ι, sr, hr, h⟩ => ?_
  refine ⟨ρ, μ, ι, sr, hr, Post.mono (Post.bind h) ?_⟩
  rintro v H1 ⟨x, μ1, ι1, g1, hr1, r1, h1⟩
  cases e : fTru x μ1 with
  | none => rw [e] at h1; exact h1.elim
  | some k =>
    rw [e] at h1
    refine ⟨k, tru_of hr1 r1 e, ?_⟩
    cases k with
    | true => rw [if_pos rfl]; exact ⟨ρ, μ1, ι1, sr.grow g1, hr1, h1⟩
    | false => rw [if_neg Bool.false_ne_true]; exact h1.ok hr1 r1
theorem e_not (ha : PE X a (LE X.K W da)) : PE X (.UnaryOp .Not a pos) (LE X.K W (dNot da)) := by
  refine (pe_notT ha).mono fun σ H Q ⟨ρ, μ, ι, sr, hr, h⟩ => ?_
  refine ⟨ρ, μ, ι, sr, hr, Post.mono (Post.bind h) ?_⟩
  rintro v H1 ⟨x, μ1, ι1, g1, hr1, r1, h1⟩
  cases e : fTru x μ1 with
  | none => rw [e] at h1; exact h1.elim
  | some k => rw [e] at h1; exact ⟨k, tru_of hr1 r1 e, h1.ok hr1 rfl⟩
section
variable {ba bb : Dn Bool}
theorem w_and1 (ha : PT X a (LT X.K W ba)) : PW X (.BoolOp .And [a] pos) (LT X.K W ba) := pw_and1 ha
theorem w_or1 (ha : PT X a (LT X.K W ba)) : PW X (.BoolOp .Or [a] pos) (LT X.K W ba) := pw_or1 ha
theorem w_and (ha : PT X a (LT X.K W ba)) (hb : PW X (.BoolOp .And (b :: rest) pos) (LT X.K W bb)) : PW X (.BoolOp .And (a :: b :: rest) pos) (LT X.K W (dAndB ba bb)) := by
  refine (pw_and ha hb).mono fun σ H Q ⟨ρ, μ, ι, sr, hr, h⟩ => ?_
  refine ⟨ρ, μ, ι, sr, hr, Post.mono (Post.bind h) ?_⟩
  rintro v H1 ⟨x, μ1, ι1, g1, hr1, rfl, h1⟩
  cases x with
  | true => rw [if_pos rfl] at h1 ⊢; exact ⟨ρ, μ1, ι1, sr.grow g1, hr1, h1⟩
  | false => rw [if_neg Bool.false_ne_true] at h1 ⊢; exact h1.ok hr1 rfl
theorem w_or (ha : PT X a (LT X.K W ba)) (hb : PW X (.BoolOp .Or (b :: rest) pos) (LT X.K W bb)) : PW X (.BoolOp .Or (a :: b :: rest) pos) (LT X.K W (dOrB ba bb)) := by
  refine (pw_or ha hb).mono fun σ H Q ⟨ρ, μ, ι, sr, hr, h⟩ => ?_
  refine ⟨ρ, μ, ι, sr, hr, Post.mono (Post.bind h) ?_⟩
  rintro v H1 ⟨x, μ1, ι1, g1, hr1, rfl, h1⟩
  cases x with
  | true => rw [if_pos rfl] at h1 ⊢; exact h1.ok hr1 rfl
  | false => rw [if_neg Bool.false_ne_true] at h1 ⊢; exact ⟨ρ, μ1, ι1, sr.grow g1, hr1, h1⟩
theorem t_not (ha : PT X a (LT X.K W ba)) : PT X (.UnaryOp .Not a pos) (LT X.K W (dNotB ba)) := by
  refine (pt_not ha).mono fun σ H Q ⟨ρ, μ, ι, sr, hr, h⟩ => ?_
  refine ⟨ρ, μ, ι, sr, hr, Post.mono (Post.bind h) ?_⟩
  rintro v H1 ⟨x, μ1, ι1, g1, hr1, rfl, h1⟩
  exact h1.ok hr1 rfl
theorem e_if {c : Expr} (hc : PT X c (LT X.K W ba)) (ha : PE X a (LE X.K W da)) (hb : PE X b (LE X.K W db)) : PE X (.IfExp c a b pos) (LE X.K W (dIf ba da db)) := by
  refine (pe_ifExp hc ha hb).mono fun σ H Q ⟨ρ, μ, ι, sr, hr, h⟩ => ?_
  refine ⟨ρ, μ, ι, sr, hr, Post.mono (Post.bind h) ?_⟩
  rintro v H1 ⟨x, μ1, ι1, g1, hr1, rfl, h1⟩
  cases x with
  | true => rw [if_pos rfl] at h1 ⊢; exact ⟨ρ, μ1, ι1, sr.grow g1, hr1, h1⟩
  | false => rw [if_neg Bool.false_ne_true] at h1 ⊢; exact ⟨ρ, μ1, ι1, sr.grow g1, hr1, h1⟩
end
end
end GB
set_option Elab.async false
set_option linter.all false
set_option maxRecDepth 100000
set_option maxHeartbeats 2000000
namespace GB
open PySem PySem.Spec PyProof.Rows L2
section
variable {K : PySem.W.Frag} {W : WE}
theorem ol_I0 {g : Int → Int → V} {f : PV → PV → Mu → R PV} {gp : Int → Int → PV} (hf : ∀ x y μ, f x y μ = (match x, y with | .int i, .int j => .ok (gp i j) μ | _, _ => .bad)) (hg : ∀ i j ι H, Rep K ι H (gp i j) (g i j)) : OpL K f (rI0 g) := by
  intro W ι μ H a b x y Q hr ra rb h
  rw [hf] at h
  cases a with
  | int i => cases b with
    | int j => cases ra; cases rb; exact ⟨i, j, rfl, rfl, h.ok hr (hg i j ι H)⟩
    | _ => exact h.elim
  | _ => cases b <;> exact h.elim
theorem ol_sub : OpL K fSub (rI0 fun i j => .int (i - j)) := ol_I0 (gp := fun i j => .int (i - j)) (fun x y μ => by cases x <;> cases y <;> rfl) fun _ _ _ _ => rfl
theorem ol_cmp {p : Int → Int → Bool} : OpL K (fCmp p) (rI0 fun i j => .bl (p i j)) := ol_I0 (gp := fun i j => .bl (p i j)) (fun x y μ => by cases x <;> cases y <;> rfl) fun _ _ _ _ => rfl
def rMulG : R2 := rI IntMulOk fun i j => .int (i * j)
theorem mulOk_ok {i j : Int} (h : mulOk i j = true) : IntMulOk i j := by
  unfold mulOk at h
  rw [Bool.or_eq_true, Bool.or_eq_true] at h
  rcases h with (h | h) | h
  · have h2 : i.natAbs < 2 ^ 64 := Nat.blt_eq.mp h
    exact .of_left (intBits_le_64 (by omega) (by omega))
  · have h2 : j.natAbs < 2 ^ 64 := Nat.blt_eq.mp h
    exact .of_right (intBits_le_64 (by omega) (by omega))
  · have h2 : i.natAbs.log2 + j.natAbs.log2 < 134000000 := Nat.blt_eq.mp h
    have b : ∀ x : Int, Builtin.Int.intBits x ≤ x.natAbs.log2 + 1 := fun x => by
      unfold Builtin.Int.intBits
      split <;> omega
    have h1 := b i
    have h3 := b j
    have e : bitsLine = 134217728 := by decide
    unfold IntMulOk
    intro z
    rw [Bool.and_eq_true] at z
    have z2 := z.2
    unfold Builtin.Int.intTooBig at z2
    have z3 := of_decide_eq_true z2
    rw [e] at z3
    omega
theorem op_mulG {X : Cx} : OpR X (binaryOp .Mult) rMulG := opI fun _ _ _ _ _ _ _ hc q => mul_int q hc
theorem ol_mulI : OpL K fMulI rMulG := by
  intro W ι μ H a b x y Q hr ra rb h
  unfold fMulI at h
  cases a with
  | int i => cases b with
    | int j =>
      cases ra; cases rb
      simp only at h
      split at h
      · rename_i c
        exact ⟨i, j, rfl, rfl, mulOk_ok c, h.ok hr rfl⟩
      · exact h.elim
    | _ => exact h.elim
  | _ => cases b <;> exact h.elim
theorem ol_div : OpL K fDiv (rI CDivW fun i j => .int (i / j)) := by
  intro W ι μ H a b x y Q hr ra rb h
  unfold fDiv at h
  cases a with
  | int i => cases b with
    | int j =>
      cases ra; cases rb
      simp only at h
      split at h
      · rename_i c
        rw [Bool.and_eq_true] at c
        exact ⟨i, j, rfl, rfl, ⟨of_decide_eq_true c.1, Nat.blt_eq.mp c.2⟩, h.ok hr rfl⟩
      · exact h.elim
    | _ => exact h.elim
  | _ => cases b <;> exact h.elim
theorem ol_mod : OpL K fMod (rI (fun _ j => 0 < j) fun i j => .int (i % j)) := by
  intro W ι μ H a b x y Q hr ra rb h
  unfold fMod at h
  cases a with
  | int i => cases b with
    | int j =>
      cases ra; cases rb
      simp only at h
      split at h
      · rename_i c
        exact ⟨i, j, rfl, rfl, c, h.ok hr rfl⟩
      · exact h.elim
    | _ => exact h.elim
  | _ => cases b <;> exact h.elim
theorem ol_pow : OpL K fPow (rI CPow fun i j => .int (i ^ j.toNat)) := by
  intro W ι μ H a b x y Q hr ra rb h
  unfold fPow at h
  cases a with
  | int i => cases b with
    | int j =>
      cases ra; cases rb
      simp only at h
      split at h
      · rename_i c
        rw [Bool.and_eq_true, Bool.and_eq_true] at c
        exact ⟨i, j, rfl, rfl, ⟨of_decide_eq_true c.1.1, of_decide_eq_true c.1.2, Nat.blt_eq.mp c.2⟩, h.ok hr rfl⟩
      · exact h.elim
    | _ => exact h.elim
  | _ => cases b <;> exact h.elim
theorem ul_neg : UnL K fNeg (rU fun i => .int (-i)) := by
  intro W ι μ H a x Q hr ra h
  unfold fNeg at h
  cases a with
  | int i => cases ra; exact ⟨i, rfl, h.ok hr rfl⟩
  | _ => exact h.elim
/-- + of ints, texts, tuples, lists -/
def rAddG (K : PySem.W.Frag) : R2 := fun x y H Q => rI0 (fun i j => .int (i + j)) x y H Q ∨ ((∃ i j, x = .str i ∧ y = .str j ∧ i.length + j.length ≤ sizeLine ∧ Q (.str (i ++ j)) H) ∨ (rCatA K x y H Q ∨ rCat x y H Q))
theorem op_addG {X : Cx} : OpR X (binaryOp .Add) (rAddG X.K) := op_add.or (op_add_str.or (op_catA.or op_cat))
theorem catL {ι : Io} {μ : Mu} {H : Hp} {a b : PV} {x y : V} {Q : VK} {W : WE} (hr : HR K ι μ H) (ra : Rep K ι H a x) (rb : Rep K ι H b y)
    (h : Post K W (fun ι H => Rep K ι H) ι H (match lstP a μ, lstP b μ with
    | some a, some b => if a.length + b.length ≤ 16777216 then R.ok (PV.lst (a ++ b)) μ else .bad
    | _, _ => .bad) Q) : rCat x y H Q := by
  cases e1 : lstP a μ with
  | none => rw [e1] at h; exact h.elim
  | some xs => cases e2 : lstP b μ with
    | none => rw [e1, e2] at h; exact h.elim
    | some ys =>
      rw [e1, e2] at h
      simp only at h
      split at h
      · rename_i c
        obtain ⟨a1, vs, rfl, h1, r1, h1'⟩ := lstP_sq hr ra e1
        obtain ⟨a2, us, rfl, h2, r2, h2'⟩ := lstP_sq hr rb e2
        refine ⟨a1, a2, vs, us, rfl, rfl, h1', h2', by rw [r1.length, r2.length, ← line_eq]; exact c, fun p hp => ?_⟩
        exact h.at_ (grow_new hp) (hr.new hp) (new_lst hr hp (r1.append r2))
      · exact h.elim
theorem ol_add : OpL K fAdd (rAddG K) := by
  intro W ι μ H a b x y Q hr ra rb h
  unfold fAdd at h
  cases a with
  | int i => cases b with
    | int j => cases ra; cases rb; exact .inl ⟨i, j, rfl, rfl, h.ok hr rfl⟩
    | _ => exact h.elim
  | str i => cases b with
    | str j =>
      cases ra; cases rb
      simp only at h
      split at h
      · rename_i c
        exact .inr (.inl ⟨i, j, rfl, rfl, by rw [← line_eq]; exact c, h.ok hr rfl⟩)
      · exact h.elim
    | _ => exact h.elim
  | tup xs => cases b with
    | tup ys =>
      simp only at h
      split at h
      · rename_i c2
        obtain ⟨a1, vs, rfl, s1, r1⟩ := ra
        obtain ⟨a2, us, rfl, s2, r2⟩ := rb
        have l1 := r1.length
        have l2 := r2.length
        refine .inr (.inr (.inl ⟨a1, a2, vs, us, rfl, rfl, s1, s2, by rw [l1, l2, ← line_eq]; exact c2, fun z => ?_, fun _ z => ?_, fun _ z p hp => ?_⟩))
        · refine h.ok hr ⟨a2, us, rfl, s2, ?_⟩
          have : xs = [] := by rw [z] at l1; exact List.eq_nil_of_length_eq_zero l1.symm
          rw [this, List.nil_append]; exact r2
        · refine h.ok hr ⟨a1, vs, rfl, s1, ?_⟩
          have : ys = [] := by rw [z] at l2; exact List.eq_nil_of_length_eq_zero l2.symm
          rw [this, List.append_nil]; exact r1
        · exact h.at_ (grow_new hp) (hr.new hp) ⟨p, _, rfl, .of upd_same, (r1.append r2).grow (grow_new hp)⟩
      · exact h.elim
    | _ => exact h.elim
  | lst xs => exact .inr (.inr (.inr (catL hr ra rb h)))
  | ref l => exact .inr (.inr (.inr (catL hr ra rb h)))
  | non => cases b <;> exact h.elim
  | bl _ => cases b <;> exact h.elim
  | raw _ => cases b <;> exact h.elim
  | scr _ => cases b <;> exact h.elim
/-- .. the list will be written -/
def fAddT (x y : PV) (μ : Mu) : R PV := match lstP x μ, lstP y μ with
  | some a, some b => if a.length + b.length ≤ 16777216 then .ok (.ref μ.length) (μ ++ [.lst (a ++ b)]) else .bad
  | _, _ => .bad
theorem ol_addT : OpL K fAddT (rAddG K) := by
  intro W ι μ H a b x y Q hr ra rb h
  unfold fAddT at h
  cases e1 : lstP a μ with
  | none => rw [e1] at h; exact h.elim
  | some xs => cases e2 : lstP b μ with
    | none => rw [e1, e2] at h; exact h.elim
    | some ys =>
      rw [e1, e2] at h
      simp only at h
      split at h
      · rename_i c
        obtain ⟨a1, vs, rfl, h1, r1, h1'⟩ := lstP_sq hr ra e1
        obtain ⟨a2, us, rfl, h2, r2, h2'⟩ := lstP_sq hr rb e2
        refine .inr (.inr (.inr ⟨a1, a2, vs, us, rfl, rfl, h1', h2', by rw [r1.length, r2.length, ← line_eq]; exact c, fun p hp => ?_⟩))
        exact h.at_ (grow_alloc hp) (hr.alloc hp (r1.append r2)) (alloc_ref hr)
      · exact h.elim
/-! ### == -/
mutual
theorem toD_dp {ι : Io} {μ : Mu} {H : Hp} (hr : HR K ι μ H) : ∀ (n : Nat) (x : PV) (v : V) (d : PyData), toD μ n x = some d → Rep K ι H x v → Dp K H v d
  | 0, _, _, _, e, _ => by simp [toD] at e
  | _ + 1, .non, _, _, e, r => by simp only [toD] at e; cases e; cases r; exact .non
  | _ + 1, .bl _, _, _, e, r => by simp only [toD] at e; cases e; cases r; exact .bl _
  | _ + 1, .int _, _, _, e, r => by simp only [toD] at e; cases e; cases r; exact .int _
  | _ + 1, .str _, _, _, e, r => by simp only [toD] at e; cases e; cases r; exact .str _
  | n + 1, .tup xs, _, _, e, ⟨a, vs, h1, h2, h3⟩ => by
    simp only [toD] at e
    cases q : toDL μ n xs with
    | none => rw [q] at e; cases e
    | some ds => rw [q] at e; cases e; subst h1; exact .tup h2 (toDL_dp hr n xs vs ds q h3)
  | n + 1, .ref l, _, _, e, r => by
    simp only [toD] at e
    cases q : getL μ l with
    | none => rw [q] at e; cases e
    | some xs =>
      rw [q] at e
      obtain ⟨a, vs, h1, h2, h3, _⟩ := getL_sq hr q
      obtain rfl := ref_eq r h1
      cases q2 : toDL μ n xs with
      | none => simp only [Option.bind_some, q2] at e; cases e
      | some ds =>
        simp only [Option.bind_some, q2] at e; cases e
        exact .lst h2 (toDL_dp hr n xs vs ds q2 h3)
  | _ + 1, .raw _, _, _, e, _ => by simp only [toD] at e; cases e
  | _ + 1, .scr _, _, _, e, _ => by simp only [toD] at e; cases e
  | n + 1, .lst xs, _, _, e, ⟨a, vs, h1, h2, h3⟩ => by
    simp only [toD] at e
    cases q : toDL μ n xs with
    | none => rw [q] at e; cases e
    | some ds => rw [q] at e; cases e; subst h1; exact .lst (.of h2.1) (toDL_dp hr n xs vs ds q h3)
theorem toDL_dp {ι : Io} {μ : Mu} {H : Hp} (hr : HR K ι μ H) : ∀ (n : Nat) (xs : List PV) (vs : List V) (ds : List PyData), toDL μ n xs = some ds → RepL K ι H xs vs → DpAll K H vs ds
  | 0, _, _, _, e, _ => by simp [toDL] at e
  | _ + 1, [], _, _, e, r => by simp only [toDL] at e; cases e; rw [show _ = [] from r]; exact .nil
  | n + 1, x :: xs, _, _, e, ⟨v, r, h1, h2, h3⟩ => by
    simp only [toDL] at e
    cases q : toD μ n x with
    | none => rw [q] at e; cases e
    | some d =>
      rw [q] at e
      cases q2 : toDL μ n xs with
      | none => simp only [Option.bind_some, q2] at e; cases e
      | some ds =>
        simp only [Option.bind_some, q2] at e; cases e
        subst h1
        exact .cons (toD_dp hr n x v d q h2) (toDL_dp hr n xs r ds q2 h3)
end
theorem eqv_int (i j : Int) : PyData.eqv (.int i) (.int j) = decide (i = j) := by
  unfold PyData.eqv
  by_cases h : i = j <;> simp [h]
theorem eqv_bl (i j : Bool) : PyData.eqv (.bool i) (.bool j) = (i == j) := by
  unfold PyData.eqv
  cases i <;> cases j <;> rfl
theorem sh_int (i : Int) : SeqAt.shaped (.int i) = true := by unfold SeqAt.shaped; simp [PyData.canLay0, PyData.depth]
theorem sh_bl (i : Bool) : SeqAt.shaped (.bool i) = true := by unfold SeqAt.shaped; simp [PyData.canLay0, PyData.depth]
theorem sh_non : SeqAt.shaped .none = true := by decide
theorem eqB_ok {ι : Io} {μ : Mu} {H : Hp} {a b : PV} {x y : V} {k : Bool} (hr : HR K ι μ H) (ra : Rep K ι H a x) (rb : Rep K ι H b y) (e : eqB a b μ = some k) :
    ∃ d e, Dp K H x d ∧ Dp K H y e ∧ SeqAt.shaped d = true ∧ SeqAt.shaped e = true ∧ k = PyData.eqv d e := by
  have gen : ∀ {a b : PV}, Rep K ι H a x → Rep K ι H b y → (match toD μ 1000 a, toD μ 1000 b with
    | some d, some e => if SeqAt.shaped d && SeqAt.shaped e then some (PyData.eqv d e) else none
    | _, _ => none) = some k → ∃ d e, Dp K H x d ∧ Dp K H y e ∧ SeqAt.shaped d = true ∧ SeqAt.shaped e = true ∧ k = PyData.eqv d e := by
    intro a b ra rb e
    cases q1 : toD μ 1000 a with
    | none => rw [q1] at e; cases e
    | some d => cases q2 : toD μ 1000 b with
      | none => rw [q1, q2] at e; cases e
      | some d2 =>
        rw [q1, q2] at e
        simp only at e
        split at e
        · rename_i c
          rw [Bool.and_eq_true] at c
          cases e
          exact ⟨d, d2, toD_dp hr _ _ _ _ q1 ra, toD_dp hr _ _ _ _ q2 rb, c.1, c.2, rfl⟩
        · cases e
  unfold eqB at e
  split at e
  · cases ra; cases rb; cases e; exact ⟨_, _, .int _, .int _, sh_int _, sh_int _, (eqv_int _ _).symm⟩
  · cases ra; cases rb; cases e; exact ⟨_, _, .bl _, .bl _, sh_bl _, sh_bl _, (eqv_bl _ _).symm⟩
  · cases ra; cases rb; cases e; exact ⟨_, _, .non, .non, sh_non, sh_non, rfl⟩
  · cases ra; cases rb; cases e; exact ⟨_, _, .int _, .non, sh_int _, sh_non, rfl⟩
  · cases ra; cases rb; cases e; exact ⟨_, _, .non, .int _, sh_non, sh_int _, rfl⟩
  · exact gen ra rb e
theorem ol_eq : OpL K fEq (rEqD K) := by
  intro W ι μ H a b x y Q hr ra rb h
  unfold fEq at h
  cases e : eqB a b μ with
  | none => rw [e] at h; exact h.elim
  | some k =>
    rw [e] at h
    obtain ⟨d, d2, h1, h2, h3, h4, rfl⟩ := eqB_ok hr ra rb e
    exact ⟨d, d2, h1, h2, h3, h4, h.ok hr rfl⟩
theorem ol_ne : OpL K fNe (rNeD K) := by
  intro W ι μ H a b x y Q hr ra rb h
  unfold fNe at h
  cases e : eqB a b μ with
  | none => rw [e] at h; exact h.elim
  | some k =>
    rw [e] at h
    obtain ⟨d, d2, h1, h2, h3, h4, rfl⟩ := eqB_ok hr ra rb e
    exact ⟨d, d2, h1, h2, h3, h4, h.ok hr rfl⟩
theorem isn_of {ι : Io} {H : Hp} {a : PV} {x : V} (r : Rep K ι H a x) (h : ∀ u, a ≠ .raw u) : decide (x = .non) = (match a with | .non => true | _ => false) := by
  cases a with
  | non => cases r; rfl
  | bl _ => cases r; rfl
  | int _ => cases r; rfl
  | str _ => cases r; rfl
  | tup _ => obtain ⟨_, _, rfl, _⟩ := r; rfl
  | ref _ => obtain ⟨_, rfl, _⟩ := r; rfl
  | lst _ => obtain ⟨_, _, rfl, _⟩ := r; rfl
  | scr _ => obtain ⟨_, _, rfl, _⟩ := r; rfl
  | raw u => exact absurd rfl (h u)
end
/-! ### rules -/
section
variable {X : Cx} {W : WS} {a b c : Expr} {da db dc : Dn PV} {es : List Expr} {dl : Dn (List PV)} {pos : Pos} {j : Nat} {pn : Pos}
theorem e_add (ha : PE X a (LE X.K W da)) (hb : PE X b (LE X.K W db)) : PE X (.BinOp a .Add b pos) (LE X.K W (dOp fAdd da db)) := e_op op_addG ol_add ha hb
theorem e_addT (ha : PE X a (LE X.K W da)) (hb : PE X b (LE X.K W db)) : PE X (.BinOp a .Add b pos) (LE X.K W (dOp fAddT da db)) := e_op op_addG ol_addT ha hb
theorem e_sub (ha : PE X a (LE X.K W da)) (hb : PE X b (LE X.K W db)) : PE X (.BinOp a .Sub b pos) (LE X.K W (dOp fSub da db)) := e_op op_sub ol_sub ha hb
theorem e_mulI (ha : PE X a (LE X.K W da)) (hb : PE X b (LE X.K W db)) : PE X (.BinOp a .Mult b pos) (LE X.K W (dOp fMulI da db)) := e_op op_mulG ol_mulI ha hb
theorem e_div (ha : PE X a (LE X.K W da)) (hb : PE X b (LE X.K W db)) : PE X (.BinOp a .FloorDiv b pos) (LE X.K W (dOp fDiv da db)) := e_op op_fdivW ol_div ha hb
theorem e_mod (ha : PE X a (LE X.K W da)) (hb : PE X b (LE X.K W db)) : PE X (.BinOp a .Mod b pos) (LE X.K W (dOp fMod da db)) := e_op op_mod ol_mod ha hb
theorem e_pow (ha : PE X a (LE X.K W da)) (hb : PE X b (LE X.K W db)) : PE X (.BinOp a .Pow b pos) (LE X.K W (dOp fPow da db)) := e_op op_pow ol_pow ha hb
theorem e_neg (ha : PE X a (LE X.K W da)) : PE X (.UnaryOp .USub a pos) (LE X.K W (dUn fNeg da)) := e_un un_neg ul_neg ha
theorem e_lt (ha : PE X a (LE X.K W da)) (hb : PE X b (LE X.K W db)) : PE X (.Compare a [.Lt] [b] pos) (LE X.K W (dOp fLt da db)) := e_cmp op_lt ol_cmp ha hb (nomark _)
theorem e_le (ha : PE X a (LE X.K W da)) (hb : PE X b (LE X.K W db)) : PE X (.Compare a [.LtE] [b] pos) (LE X.K W (dOp fLe da db)) := e_cmp op_le ol_cmp ha hb (nomark _)
theorem e_gt (ha : PE X a (LE X.K W da)) (hb : PE X b (LE X.K W db)) : PE X (.Compare a [.Gt] [b] pos) (LE X.K W (dOp fGt da db)) := e_cmp op_gt ol_cmp ha hb (nomark _)
theorem e_ge (ha : PE X a (LE X.K W da)) (hb : PE X b (LE X.K W db)) : PE X (.Compare a [.GtE] [b] pos) (LE X.K W (dOp fGe da db)) := e_cmp op_ge ol_cmp ha hb (nomark _)
theorem e_eq (hu : X.A.units + 64 < cLine) (ha : PE X a (LE X.K W da)) (hb : PE X b (LE X.K W db)) : PE X (.Compare a [.Eq] [b] pos) (LE X.K W (dOp fEq da db)) := e_cmp (op_eqD hu) ol_eq ha hb (nomark _)
theorem e_ne (hu : X.A.units + 64 < cLine) (ha : PE X a (LE X.K W da)) (hb : PE X b (LE X.K W db)) : PE X (.Compare a [.NotEq] [b] pos) (LE X.K W (dOp fNe da db)) := e_cmp (op_neD hu) ol_ne ha hb (nomark _)
theorem t_lt (ha : PE X a (LE X.K W da)) (hb : PE X b (LE X.K W db)) : PT X (.Compare a [.Lt] [b] pos) (LT X.K W (asB (dOp fLt da db))) := t_cmp op_lt ol_cmp ha hb (nomark _)
theorem t_le (ha : PE X a (LE X.K W da)) (hb : PE X b (LE X.K W db)) : PT X (.Compare a [.LtE] [b] pos) (LT X.K W (asB (dOp fLe da db))) := t_cmp op_le ol_cmp ha hb (nomark _)
theorem t_gt (ha : PE X a (LE X.K W da)) (hb : PE X b (LE X.K W db)) : PT X (.Compare a [.Gt] [b] pos) (LT X.K W (asB (dOp fGt da db))) := t_cmp op_gt ol_cmp ha hb (nomark _)
theorem t_ge (ha : PE X a (LE X.K W da)) (hb : PE X b (LE X.K W db)) : PT X (.Compare a [.GtE] [b] pos) (LT X.K W (asB (dOp fGe da db))) := t_cmp op_ge ol_cmp ha hb (nomark _)
theorem t_eq (hu : X.A.units + 64 < cLine) (ha : PE X a (LE X.K W da)) (hb : PE X b (LE X.K W db)) : PT X (.Compare a [.Eq] [b] pos) (LT X.K W (asB (dOp fEq da db))) := t_cmp (op_eqD hu) ol_eq ha hb (nomark _)
theorem t_ne (hu : X.A.units + 64 < cLine) (ha : PE X a (LE X.K W da)) (hb : PE X b (LE X.K W db)) : PT X (.Compare a [.NotEq] [b] pos) (LT X.K W (asB (dOp fNe da db))) := t_cmp (op_neD hu) ol_ne ha hb (nomark _)
theorem l_isN {K : PySem.W.Frag} {σ : L2.St} {H : Hp} {Q : VK} (h : LE K W (dUn fIsN da) σ H Q) : LE K W da σ H fun x H1 => V.non = .non ∧ Q (.bl (decide (x = .non))) H1 := by
  obtain ⟨ρ, μ, ι, sr, hr, h⟩ := h
  refine ⟨ρ, μ, ι, sr, hr, Post.mono (Post.bind h) ?_⟩
  rintro v H1 ⟨x, μ1, ι1, g1, hr1, r1, h1⟩
  unfold fIsN at h1
  refine ⟨rfl, ?_⟩
  cases x with
  | raw u => exact h1.elim
  | _ => rw [isn_of r1 (fun u => nofun)]; exact h1.ok hr1 rfl
theorem l_notN {K : PySem.W.Frag} {σ : L2.St} {H : Hp} {Q : VK} (h : LE K W (dUn fNotN da) σ H Q) : LE K W da σ H fun x H1 => V.non = .non ∧ Q (.bl (!decide (x = .non))) H1 := by
  obtain ⟨ρ, μ, ι, sr, hr, h⟩ := h
  refine ⟨ρ, μ, ι, sr, hr, Post.mono (Post.bind h) ?_⟩
  rintro v H1 ⟨x, μ1, ι1, g1, hr1, r1, h1⟩
  unfold fNotN at h1
  refine ⟨rfl, ?_⟩
  cases x with
  | raw u => exact h1.elim
  | _ => rw [isn_of r1 (fun u => nofun)]; exact h1.ok hr1 rfl
theorem e_isN (ha : PE X a (LE X.K W da)) : PE X (.Compare a [.Is] [.Constant .none j pn] pos) (LE X.K W (dUn fIsN da)) := (pe_cmpR op_isN ha pe_non (nomark _)).mono fun σ H Q h => l_isN h
theorem e_notN (ha : PE X a (LE X.K W da)) : PE X (.Compare a [.IsNot] [.Constant .none j pn] pos) (LE X.K W (dUn fNotN da)) := (pe_cmpR op_notN ha pe_non (nomark _)).mono fun σ H Q h => l_notN h
theorem t_isN (ha : PE X a (LE X.K W da)) : PT X (.Compare a [.Is] [.Constant .none j pn] pos) (LT X.K W (asB (dUn fIsN da))) := (pt_cmpR op_isN ha pe_non (nomark _)).mono fun σ H Q ⟨ρ, μ, ι, sr, hr, h⟩ => l_isN ⟨ρ, μ, ι, sr, hr, asB_bind h⟩
theorem t_notN (ha : PE X a (LE X.K W da)) : PT X (.Compare a [.IsNot] [.Constant .none j pn] pos) (LT X.K W (asB (dUn fNotN da))) := (pt_cmpR op_notN ha pe_non (nomark _)).mono fun σ H Q ⟨ρ, μ, ι, sr, hr, h⟩ => l_notN ⟨ρ, μ, ι, sr, hr, asB_bind h⟩
/-- a < b <= c -/
def dChain (f g : PV → PV → Mu → R PV) (a b c : Dn PV) : Dn PV := fun ρ μ => (a ρ μ).bind fun x μ => (b ρ μ).bind fun y μ => (f x y μ).bind fun z μ => match z with
  | .bl true => (c ρ μ).bind fun w μ => g y w μ
  | .bl false => .ok (.bl false) μ
  | _ => .bad
theorem l_chain {K : PySem.W.Frag} {f g : PV → PV → Mu → R PV} {r r' : R2} (hl : OpL K f r) (hl' : OpL K g r') {σ : L2.St} {H : Hp} {Q : VK} (h : LE K W (dChain f g da db dc) σ H Q) : tChain r r' (LE K W da) (LE K W db) (LE K W dc) σ H Q := by
  obtain ⟨ρ, μ, ι, sr, hr, h⟩ := h
  refine ⟨ρ, μ, ι, sr, hr, Post.mono (Post.bind h) ?_⟩
  rintro v H1 ⟨x, μ1, ι1, g1, hr1, r1, h1⟩
  refine ⟨ρ, μ1, ι1, sr.grow g1, hr1, Post.mono (Post.bind h1) ?_⟩
  rintro u H2 ⟨y, μ2, ι2, g2, hr2, r2, h2⟩
  refine hl _ _ _ _ _ _ _ _ _ hr2 (r1.grow g2) r2 (Post.mono (Post.bind h2) ?_)
  rintro z H3 ⟨zz, μ3, ι3, g3, hr3, r3, h3⟩
  cases zz with
  | bl k =>
    cases r3
    refine ⟨k, rfl, ?_⟩
    cases k with
    | true =>
      rw [if_pos rfl]
      refine ⟨ρ, μ3, ι3, ((sr.grow g1).grow g2).grow g3, hr3, Post.mono (Post.bind h3) ?_⟩
      rintro w' H4 ⟨w, μ4, ι4, g4, hr4, r4, h4⟩
      exact hl' _ _ _ _ _ _ _ _ _ hr4 ((r2.grow g3).grow g4) r4 h4
    | false => rw [if_neg Bool.false_ne_true]; exact h3.ok hr3 rfl
  | _ => exact h3.elim
theorem e_lelt (ha : PE X a (LE X.K W da)) (hb : PE X b (LE X.K W db)) (hc : PE X c (LE X.K W dc)) (hm : lastMarks [.LtE, .Lt] [b, c] = false := by with_unfolding_all rfl) : PE X (.Compare a [.LtE, .Lt] [b, c] pos) (LE X.K W (dChain fLe fLt da db dc)) := (pe_chain op_le op_lt ha hb hc hm).mono fun σ H Q h => l_chain ol_cmp ol_cmp h
theorem e_ltle (ha : PE X a (LE X.K W da)) (hb : PE X b (LE X.K W db)) (hc : PE X c (LE X.K W dc)) (hm : lastMarks [.Lt, .LtE] [b, c] = false := by with_unfolding_all rfl) : PE X (.Compare a [.Lt, .LtE] [b, c] pos) (LE X.K W (dChain fLt fLe da db dc)) := (pe_chain op_lt op_le ha hb hc hm).mono fun σ H Q h => l_chain ol_cmp ol_cmp h
theorem t_lelt (ha : PE X a (LE X.K W da)) (hb : PE X b (LE X.K W db)) (hc : PE X c (LE X.K W dc)) (hm : lastMarks [.LtE, .Lt] [b, c] = false := by with_unfolding_all rfl) : PT X (.Compare a [.LtE, .Lt] [b, c] pos) (LT X.K W (asB (dChain fLe fLt da db dc))) := (pt_chain op_le op_lt ha hb hc hm).mono fun σ H Q ⟨ρ, μ, ι, sr, hr, h⟩ => l_chain ol_cmp ol_cmp ⟨ρ, μ, ι, sr, hr, asB_bind h⟩
theorem t_ltle (ha : PE X a (LE X.K W da)) (hb : PE X b (LE X.K W db)) (hc : PE X c (LE X.K W dc)) (hm : lastMarks [.Lt, .LtE] [b, c] = false := by with_unfolding_all rfl) : PT X (.Compare a [.Lt, .LtE] [b, c] pos) (LT X.K W (asB (dChain fLt fLe da db dc))) := (pt_chain op_lt op_le ha hb hc hm).mono fun σ H Q ⟨ρ, μ, ι, sr, hr, h⟩ => l_chain ol_cmp ol_cmp ⟨ρ, μ, ι, sr, hr, asB_bind h⟩
end
end GB

set_option Elab.async false
set_option linter.all false
set_option maxRecDepth 100000
set_option maxHeartbeats 2000000
namespace GB
open PySem PySem.Spec PyProof.Rows L2
/-! ### subscripts, slices -/
def cutP (xs : List PV) (lo hi : Option Int) : List PV := (xs.drop (HT.sIx xs.length 0 lo)).take (HT.sIx xs.length xs.length hi - HT.sIx xs.length 0 lo)
/-- o[lo:hi] of a list (a new one) or of a tuple, not the whole of it -/
def fSl (x : PV) (lo hi : Option Int) (μ : Mu) : R PV := match x with
  | .lst xs => .ok (.lst (cutP xs lo hi)) μ
  | .scr xs => .ok (.lst (cutP xs lo hi)) μ
  | .ref l => match getL μ l with
    | some xs => .ok (.lst (cutP xs lo hi)) μ
    | none => .bad
  | .tup xs => .ok (.tup (cutP xs lo hi)) μ
  | _ => .bad
abbrev DO := Rho → Mu → R (Option Int)
def dNoPart : DO := fun _ μ => .ok none μ
def dPart (a : Dn PV) : DO := fun ρ μ => (a ρ μ).bind fun x μ => match x with
  | .int i => .ok (some i) μ
  | _ => .bad
def dSl (a : Dn PV) (lo hi : DO) : Dn PV := fun ρ μ => (a ρ μ).bind fun x μ => (lo ρ μ).bind fun l μ => (hi ρ μ).bind fun h μ => fSl x l h μ
section
variable {K : PySem.W.Frag} {W : WE}
abbrev LO (K : PySem.W.Frag) (W : WS) (d : DO) : TO := lift K W (fun _ _ a b => a = b) d
theorem ol_ix : OpL K fIx (rIx K) := by
  intro W ι μ H a b x y Q hr ra rb h
  unfold fIx at h
  cases a with
  | tup xs => cases b with
    | int i =>
      cases rb
      obtain ⟨a1, vs, rfl, s1, r1⟩ := ra
      simp only at h
      cases e : atI xs i with
      | none => rw [e] at h; exact h.elim
      | some v =>
        rw [e] at h
        obtain ⟨u, h1, h2⟩ := atI_rep r1 e
        exact .inr (.inl ⟨a1, vs, i, u, rfl, rfl, s1, h1, h.ok hr h2⟩)
    | _ => exact h.elim
  | lst xs => cases b with
    | int i =>
      cases rb
      obtain ⟨a1, vs, rfl, s1, r1⟩ := ra
      simp only at h
      cases e : atI xs i with
      | none => rw [e] at h; exact h.elim
      | some v =>
        rw [e] at h
        obtain ⟨u, h1, h2⟩ := atI_rep r1 e
        exact .inl ⟨a1, vs, i, u, rfl, rfl, .of s1.1, h1, h.ok hr h2⟩
    | _ => exact h.elim
  | scr _ => exact h.elim
  | ref l => cases b with
    | int i =>
      cases rb
      simp only at h
      cases q : getL μ l with
      | none => rw [q] at h; exact h.elim
      | some xs =>
        rw [q] at h
        simp only [Option.bind_some] at h
        cases e : atI xs i with
        | none => rw [e] at h; exact h.elim
        | some v =>
          rw [e] at h
          obtain ⟨a1, vs, h1, h2, h3, _⟩ := getL_sq hr q
          obtain rfl := ref_eq ra h1
          obtain ⟨u, h4, h5⟩ := atI_rep h3 e
          exact .inl ⟨a1, vs, i, u, rfl, rfl, h2, h4, h.ok hr h5⟩
    | _ => exact h.elim
  | str z => cases b with
    | int i =>
      cases ra; cases rb
      simp only at h
      split at h
      · rename_i c
        cases e : atI z.cps.toList i with
        | none => rw [e] at h; exact h.elim
        | some v => rw [e] at h; exact .inr (.inr ⟨z, i, v, rfl, rfl, by rw [← line_eq]; exact c, e, h.ok hr rfl⟩)
      · exact h.elim
    | _ => exact h.elim
  | non => exact h.elim
  | bl _ => exact h.elim
  | int _ => exact h.elim
  | raw _ => exact h.elim
theorem cutV_rep {ι : Io} {H : Hp} {xs : List PV} {vs : List V} (r : RepL K ι H xs vs) (lo hi : Option Int) : RepL K ι H (cutP xs lo hi) (cutV vs lo hi) := by
  unfold cutP cutV
  rw [r.length]
  exact (r.drop _).take _
end
section
variable {X : Cx} {W : WS} {a b : Expr} {da db : Dn PV} {es : List Expr} {dl : Dn (List PV)} {pos p2 : Pos} {lo hi : Option Expr} {dlo dhi : DO}
theorem e_ix (ha : PE X a (LE X.K W da)) (hb : PE X b (LE X.K W db)) (hs : PlainIx b := by intro _ _; rfl) : PE X (.Subscript a b pos) (LE X.K W (dOp fIx da db)) := (pe_ix ix_seq ha hb hs).mono fun σ H Q h => lift_op ol_ix h
theorem o_none : L2.PO X none (LO X.K W dNoPart) := ⟨fun pins s σ H Q I ⟨ρ, μ, ι, sr, hr, h⟩ => po_none.run pins s σ H Q I (show tNoPart σ H Q from h.ok hr rfl)⟩
theorem o_some (h : PE X a (LE X.K W da)) : L2.PO X (some a) (LO X.K W (dPart da)) := ⟨fun pins s σ H Q I ⟨ρ, μ, ι, sr, hr, q⟩ => (po_some h).run pins s σ H Q I (by
  refine ⟨ρ, μ, ι, sr, hr, Post.mono (Post.bind q) ?_⟩
  rintro v H1 ⟨x, μ1, ι1, g1, hr1, r1, h1⟩
  cases x with
  | int i => exact ⟨i, r1, h1.ok hr1 rfl⟩
  | _ => exact h1.elim)⟩
def rSlG (K : PySem.W.Frag) : V → Option Int → Option Int → Hp → VK → Prop := fun x lo hi H Q => rSlL K x lo hi H Q ∨ rSlA K x lo hi H Q
theorem e_sl (ha : PE X a (LE X.K W da)) (hl : L2.PO X lo (LO X.K W dlo)) (hh : L2.PO X hi (LO X.K W dhi)) : PE X (.Subscript a (.Slice lo hi none p2) pos) (LE X.K W (dSl da dlo dhi)) := by
  refine (pe_slice (r := rSlG X.K) (sl_list.or sl_tupA) ha hl hh).mono fun σ H Q ⟨ρ, μ, ι, sr, hr, h⟩ => ?_
  refine ⟨ρ, μ, ι, sr, hr, Post.mono (Post.bind h) ?_⟩
  rintro v H1 ⟨x, μ1, ι1, g1, hr1, r1, h1⟩
  refine ⟨ρ, μ1, ι1, sr.grow g1, hr1, Post.mono (Post.bind h1) ?_⟩
  rintro l H2 ⟨l', μ2, ι2, g2, hr2, rfl, h2⟩
  refine ⟨ρ, μ2, ι2, (sr.grow g1).grow g2, hr2, Post.mono (Post.bind h2) ?_⟩
  rintro u H3 ⟨u', μ3, ι3, g3, hr3, rfl, h3⟩
  have r3 := (r1.grow g2).grow g3
  unfold fSl at h3
  cases x with
  | lst xs =>
    obtain ⟨a1, vs, rfl, s1, r4⟩ := r3
    exact .inl ⟨a1, vs, rfl, .of s1.1, fun p hp => h3.at_ (grow_new hp) (hr3.new hp) (new_lst hr3 hp (cutV_rep r4 _ _))⟩
  | scr xs =>
    obtain ⟨a1, vs, rfl, s1, r4⟩ := r3
    exact .inl ⟨a1, vs, rfl, s1.sq, fun p hp => h3.at_ (grow_new hp) (hr3.new hp) (new_lst hr3 hp (cutV_rep r4 _ _))⟩
  | ref m =>
    simp only at h3
    cases q : getL μ3 m with
    | none => rw [q] at h3; exact h3.elim
    | some xs =>
      rw [q] at h3
      obtain ⟨a1, vs, i1, i2, i3, _⟩ := getL_sq hr3 q
      obtain rfl := ref_eq r3 i1
      exact .inl ⟨a1, vs, rfl, i2, fun p hp => h3.at_ (grow_new hp) (hr3.new hp) (new_lst hr3 hp (cutV_rep i3 _ _))⟩
  | tup xs =>
    obtain ⟨a1, vs, rfl, s1, r4⟩ := r3
    refine .inr ⟨a1, vs, rfl, s1, fun hw => h3.ok hr3 ⟨a1, vs, rfl, s1, ?_⟩, fun _ p hp => h3.at_ (grow_new hp) (hr3.new hp) ⟨p, _, rfl, .of upd_same, (cutV_rep r4 _ _).grow (grow_new hp)⟩⟩
    have e : cutP xs l' u' = xs := by
      unfold cutP
      rw [r4.length] at hw
      rw [hw.1, hw.2, List.drop_zero, Nat.sub_zero, List.take_length]
    rw [e]; exact r4
  | _ => exact h3.elim
/-- *e in a display or an argument list -/
def dStar (a : Dn PV) (r : Dn (List PV)) : Dn (List PV) := fun ρ μ => (a ρ μ).bind fun x μ => match x with
  | .tup xs => (r ρ μ).bind fun ys μ => .ok (xs ++ ys) μ
  | .lst xs => (r ρ μ).bind fun ys μ => .ok (xs ++ ys) μ
  | .ref l => match getL μ l with
    | some xs => (r ρ μ).bind fun ys μ => .ok (xs ++ ys) μ
    | none => .bad
  | _ => .bad
theorem a_star {p : Pos} (he : PE X a (LE X.K W da)) (hr : PA X es (LA X.K W dl)) (hs : starEach (.Starred a p :: es) X.env = (true, eval a X.env) :: starEach es X.env := by rfl) : PA X (.Starred a p :: es) (LA X.K W (dStar da dl)) := by
  refine (StX.pa_star he hr hs).mono fun σ H Q ⟨ρ, μ, ι, sr, hr, h⟩ => ?_
  refine ⟨ρ, μ, ι, sr, hr, Post.mono (Post.bind h) ?_⟩
  rintro v H1 ⟨x, μ1, ι1, g1, hr1, r1, h1⟩
  cases x with
  | tup xs =>
    obtain ⟨a1, vs, rfl, s1, r4⟩ := r1
    refine ⟨a1, vs, rfl, .inl s1, ρ, μ1, ι1, sr.grow g1, hr1, Post.mono (Post.bind h1) ?_⟩
    rintro u H2 ⟨y, μ2, ι2, g2, hr2, r2, h2⟩
    exact h2.ok hr2 ((r4.grow g2).append r2)
  | lst xs =>
    obtain ⟨a1, vs, rfl, s1, r4⟩ := r1
    refine ⟨a1, vs, rfl, .inr (.of s1.1), ρ, μ1, ι1, sr.grow g1, hr1, Post.mono (Post.bind h1) ?_⟩
    rintro u H2 ⟨y, μ2, ι2, g2, hr2, r2, h2⟩
    exact h2.ok hr2 ((r4.grow g2).append r2)
  | ref l =>
    simp only at h1
    cases q : getL μ1 l with
    | none => rw [q] at h1; exact h1.elim
    | some xs =>
      rw [q] at h1
      obtain ⟨a1, vs, i1, i2, i3, _⟩ := getL_sq hr1 q
      obtain rfl := ref_eq r1 i1
      refine ⟨a1, vs, rfl, .inr i2, ρ, μ1, ι1, sr.grow g1, hr1, Post.mono (Post.bind h1) ?_⟩
      rintro u H2 ⟨y, μ2, ι2, g2, hr2, r2, h2⟩
      exact h2.ok hr2 ((i3.grow g2).append r2)
  | _ => exact h1.elim

/-! ### built-ins -/
theorem lift_app {K : PySem.W.Frag} {f : List PV → Mu → R PV} {r : List V → Hp → VK → Prop} (hl : ApL K f r) {σ : L2.St} {H : Hp} {Q : VK} (h : LE K W (dApp f dl) σ H Q) : tCB r (LA K W dl) σ H Q := by
  obtain ⟨ρ, μ, ι, sr, hr, h⟩ := h
  refine ⟨ρ, μ, ι, sr, hr, Post.mono (Post.bind h) ?_⟩
  rintro v H1 ⟨x, μ1, ι1, g1, hr1, r1, h1⟩
  exact hl _ _ _ _ _ _ _ hr1 r1 h1
theorem e_callB {x : Str} {id : String} {f : List PV → Mu → R PV} {r : List V → Hp → VK → Prop} {p : Pos} {e : Expr} (hc : CallR X (.builtin id) r) (hl : ApL X.K f r) (hg : Gl X x) (hm : X.mg x = none) (hv : bootBuiltins x = some (.builtin id)) (ha : PA X (e :: es) (LA X.K W dl)) (hn : x ≠ "__name__" := by decide) (hdb : (x == ("__debug__" : Str)) = false := by decide)
    (he : starEach (e :: es) X.env = (false, eval e X.env) :: starEach es X.env := by rfl) (hpl : (backTo pos (starEach es X.env)).any (·.1) = false := by rfl) : PE X (.Call (.Name x p) (e :: es) [] pos) (LE X.K W (dApp f dl)) :=
  (pe_callB hc hg hm hv ha hn hdb he hpl).mono fun σ H Q h => lift_app hl h
theorem e_callTy {x : Str} {id : String} {f : List PV → Mu → R PV} {r : List V → Hp → VK → Prop} {p : Pos} {e : Expr} (hc : CallR X (.type id) r) (hl : ApL X.K f r) (hg : Gl X x) (hm : X.mg x = none) (hv : bootBuiltins x = some (.type id)) (ha : PA X (e :: es) (LA X.K W dl)) (hn : x ≠ "__name__" := by decide) (hdb : (x == ("__debug__" : Str)) = false := by decide)
    (he : starEach (e :: es) X.env = (false, eval e X.env) :: starEach es X.env := by rfl) (hpl : (backTo pos (starEach es X.env)).any (·.1) = false := by rfl) : PE X (.Call (.Name x p) (e :: es) [] pos) (LE X.K W (dApp f dl)) :=
  (pe_callTy hc hg hm hv ha hn hdb he hpl).mono fun σ H Q h => lift_app hl h
end
def allI : List PV → Option (List Int)
  | [] => some []
  | .int i :: r => (allI r).map fun l => i :: l
  | _ => none
def allB : List PV → Option (List Bool)
  | [] => some []
  | .bl i :: r => (allB r).map fun l => i :: l
  | _ => none
def maxI : Int → List Int → Int
  | m, [] => m
  | m, x :: r => maxI (if m < x then x else m) r
def minI : Int → List Int → Int
  | m, [] => m
  | m, x :: r => minI (if x < m then x else m) r
def insI (x : Int) : List Int → List Int
  | [] => [x]
  | y :: r => if x ≤ y then x :: y :: r else y :: insI x r
def sortI : List Int → List Int
  | [] => []
  | x :: r => insI x (sortI r)
def fAbs (xs : List PV) (μ : Mu) : R PV := match xs with
  | [.int i] => .ok (.int (if i < 0 then -i else i)) μ
  | _ => .bad
def fLen (xs : List PV) (μ : Mu) : R PV := match xs with
  | [.tup ys] => .ok (.int ys.length) μ
  | [.str z] => if z.length ≤ 16777216 then .ok (.int z.length) μ else .bad
  | [x] => match lstP x μ with
    | some ys => .ok (.int ys.length) μ
    | none => .bad
  | _ => .bad
def fInt (xs : List PV) (μ : Mu) : R PV := match xs with
  | [.int i] => .ok (.int i) μ
  | [.bl k] => .ok (.int (if k then 1 else 0)) μ
  | _ => .bad
def fMax (xs : List PV) (μ : Mu) : R PV := match xs with
  | [.int i, .int j] => .ok (.int (if j > i then j else i)) μ
  | [x] => match (lstP x μ).bind allI with
    | some (m :: r) => .ok (.int (maxI m r)) μ
    | _ => .bad
  | _ => .bad
def fMin (xs : List PV) (μ : Mu) : R PV := match xs with
  | [.int i, .int j] => .ok (.int (if j < i then j else i)) μ
  | [x] => match (lstP x μ).bind allI with
    | some (m :: r) => .ok (.int (minI m r)) μ
    | _ => .bad
  | _ => .bad
def fSum (xs : List PV) (μ : Mu) : R PV := match xs with
  | [.tup ys] => match allI ys with
    | some ns => .ok (.int ns.sum) μ
    | none => .bad
  | [x] => match (lstP x μ).bind allI with
    | some ns => .ok (.int ns.sum) μ
    | none => .bad
  | _ => .bad
def fAll (xs : List PV) (μ : Mu) : R PV := match xs with
  | [x] => match (lstP x μ).bind allB with
    | some ns => .ok (.bl (ns.all id)) μ
    | none => .bad
  | _ => .bad
def fAny (xs : List PV) (μ : Mu) : R PV := match xs with
  | [x] => match (lstP x μ).bind allB with
    | some ns => .ok (.bl (ns.any id)) μ
    | none => .bad
  | _ => .bad
/-- the items of a tuple or a list -/
def seqP (x : PV) (μ : Mu) : Option (List PV) := match x with
  | .tup xs => some xs
  | .lst xs => some xs
  | .ref l => getL μ l
  | _ => none
def fList (xs : List PV) (μ : Mu) : R PV := match xs with
  | [x] => match seqP x μ with
    | some ys => .ok (.lst ys) μ
    | none => .bad
  | _ => .bad
/-- .. one that will be written -/
def fListT (xs : List PV) (μ : Mu) : R PV := match xs with
  | [x] => match seqP x μ with
    | some ys => .ok (.ref μ.length) (μ ++ [.lst ys])
    | none => .bad
  | _ => .bad
def fTuple (xs : List PV) (μ : Mu) : R PV := match xs with
  | [x] => match seqP x μ with
    | some ys => .ok (.tup ys) μ
    | none => .bad
  | _ => .bad
/-- sorted of a list of ints -/
def fSorted (xs : List PV) (μ : Mu) : R PV := match xs with
  | [x] => match (lstP x μ).bind allI with
    | some ns => .ok (.lst ((sortI ns).map .int)) μ
    | none => match lstP x μ with
      | some [y] => .ok (.lst [y]) μ
      | _ => .bad
  | _ => .bad
theorem insI_perm (x : Int) : ∀ l, (insI x l).Perm (x :: l)
  | [] => .refl _
  | y :: r => by
    unfold insI
    split
    · exact .refl _
    · exact ((insI_perm x r).cons y).trans (.swap x y r)
theorem sortI_perm : ∀ l, (sortI l).Perm l
  | [] => .refl _
  | x :: r => (insI_perm x _).trans ((sortI_perm r).cons x)
theorem insI_sorted (x : Int) : ∀ l, l.Pairwise (· ≤ ·) → (insI x l).Pairwise (· ≤ ·)
  | [], _ => by simp [insI]
  | y :: r, h => by
    unfold insI
    rw [List.pairwise_cons] at h
    split
    · rename_i c
      rw [List.pairwise_cons]
      refine ⟨fun z hz => ?_, by rw [List.pairwise_cons]; exact h⟩
      rcases List.mem_cons.mp hz with rfl | hz
      · exact c
      · exact Int.le_trans c (h.1 z hz)
    · rename_i c
      rw [List.pairwise_cons]
      refine ⟨fun z hz => ?_, insI_sorted x r h.2⟩
      rcases List.mem_cons.mp ((insI_perm x r).mem_iff.mp hz) with rfl | hz
      · omega
      · exact h.1 z hz
theorem sortI_sorted : ∀ l, (sortI l).Pairwise (· ≤ ·)
  | [] => .nil
  | x :: r => insI_sorted x _ (sortI_sorted r)
theorem maxI_spec : ∀ (l : List Int) (m : Int), (maxI m l = m ∨ maxI m l ∈ l) ∧ m ≤ maxI m l ∧ ∀ y ∈ l, y ≤ maxI m l
  | [], m => ⟨.inl rfl, Int.le_refl _, fun _ h => nomatch h⟩
  | x :: r, m => by
    unfold maxI
    obtain ⟨h1, h2, h3⟩ := maxI_spec r (if m < x then x else m)
    split at h1
    · rename_i c
      rw [if_pos c] at h2 h3 ⊢
      refine ⟨.inr ?_, by omega, fun y hy => ?_⟩
      · rcases h1 with h1 | h1
        · rw [h1]; exact List.mem_cons_self
        · exact List.mem_cons_of_mem _ h1
      · rcases List.mem_cons.mp hy with rfl | hy
        · exact h2
        · exact h3 y hy
    · rename_i c
      rw [if_neg c] at h2 h3 ⊢
      refine ⟨?_, by omega, fun y hy => ?_⟩
      · rcases h1 with h1 | h1
        · exact .inl h1
        · exact .inr (List.mem_cons_of_mem _ h1)
      · rcases List.mem_cons.mp hy with rfl | hy
        · omega
        · exact h3 y hy
theorem minI_spec : ∀ (l : List Int) (m : Int), (minI m l = m ∨ minI m l ∈ l) ∧ minI m l ≤ m ∧ ∀ y ∈ l, minI m l ≤ y
  | [], m => ⟨.inl rfl, Int.le_refl _, fun _ h => nomatch h⟩
  | x :: r, m => by
    unfold minI
    obtain ⟨h1, h2, h3⟩ := minI_spec r (if x < m then x else m)
    split at h1
    · rename_i c
      rw [if_pos c] at h2 h3 ⊢
      refine ⟨.inr ?_, by omega, fun y hy => ?_⟩
      · rcases h1 with h1 | h1
        · rw [h1]; exact List.mem_cons_self
        · exact List.mem_cons_of_mem _ h1
      · rcases List.mem_cons.mp hy with rfl | hy
        · exact h2
        · exact h3 y hy
    · rename_i c
      rw [if_neg c] at h2 h3 ⊢
      refine ⟨?_, by omega, fun y hy => ?_⟩
      · rcases h1 with h1 | h1
        · exact .inl h1
        · exact .inr (List.mem_cons_of_mem _ h1)
      · rcases List.mem_cons.mp hy with rfl | hy
        · omega
        · exact h3 y hy
section
variable {K : PySem.W.Frag} {W : WE} {ι : Io} {H : Hp} {μ : Mu}
theorem allI_rep : ∀ {xs : List PV} {vs : List V} {ns : List Int}, RepL K ι H xs vs → allI xs = some ns → vs = ns.map V.int
  | [], _, _, r, e => by cases e; rw [show _ = [] from r]; rfl
  | .int i :: xs, _, ns, ⟨v, r, e1, e2, e3⟩, e => by
    unfold allI at e
    cases q : allI xs with
    | none => rw [q] at e; cases e
    | some l => rw [q] at e; cases e; subst e1; cases e2; rw [allI_rep e3 q]; rfl
  | .non :: _, _, _, _, e => by cases e
  | .bl _ :: _, _, _, _, e => by cases e
  | .str _ :: _, _, _, _, e => by cases e
  | .tup _ :: _, _, _, _, e => by cases e
  | .ref _ :: _, _, _, _, e => by cases e
  | .lst _ :: _, _, _, _, e => by cases e
  | .scr _ :: _, _, _, _, e => by cases e
  | .raw _ :: _, _, _, _, e => by cases e
theorem allB_rep : ∀ {xs : List PV} {vs : List V} {ns : List Bool}, RepL K ι H xs vs → allB xs = some ns → vs = ns.map V.bl
  | [], _, _, r, e => by cases e; rw [show _ = [] from r]; rfl
  | .bl i :: xs, _, ns, ⟨v, r, e1, e2, e3⟩, e => by
    unfold allB at e
    cases q : allB xs with
    | none => rw [q] at e; cases e
    | some l => rw [q] at e; cases e; subst e1; cases e2; rw [allB_rep e3 q]; rfl
  | .non :: _, _, _, _, e => by cases e
  | .int _ :: _, _, _, _, e => by cases e
  | .str _ :: _, _, _, _, e => by cases e
  | .tup _ :: _, _, _, _, e => by cases e
  | .ref _ :: _, _, _, _, e => by cases e
  | .lst _ :: _, _, _, _, e => by cases e
  | .scr _ :: _, _, _, _, e => by cases e
  | .raw _ :: _, _, _, _, e => by cases e
theorem rep_ints : ∀ ns : List Int, RepL K ι H (ns.map .int) (ns.map V.int)
  | [] => rfl
  | _ :: r => .cons_ rfl (rep_ints r)
theorem one_rep {x : PV} {vs : List V} (r : RepL K ι H [x] vs) : ∃ v, vs = [v] ∧ Rep K ι H x v := by
  obtain ⟨v, t, e, h, e2⟩ := r
  rw [show t = [] from e2] at e
  exact ⟨v, e, h⟩
theorem two_rep {x y : PV} {vs : List V} (r : RepL K ι H [x, y] vs) : ∃ v u, vs = [v, u] ∧ Rep K ι H x v ∧ Rep K ι H y u := by
  obtain ⟨v, t, e, h, e2⟩ := r
  obtain ⟨u, rfl, h2⟩ := one_rep e2
  exact ⟨v, u, e, h, h2⟩
theorem lstI_sq {x : PV} {v : V} {ns : List Int} (h : HR K ι μ H) (r : Rep K ι H x v) (e : (lstP x μ).bind allI = some ns) : ∃ a, v = .ref a ∧ SqL K H a (ns.map V.int) := by
  cases q : lstP x μ with
  | none => rw [q] at e; cases e
  | some xs =>
    rw [q] at e
    obtain ⟨a, vs, h1, h2, h3, _⟩ := lstP_sq h r q
    rw [allI_rep h3 e] at h2
    exact ⟨a, h1, h2⟩
theorem lstB_sq {x : PV} {v : V} {ns : List Bool} (h : HR K ι μ H) (r : Rep K ι H x v) (e : (lstP x μ).bind allB = some ns) : ∃ a, v = .ref a ∧ SqL K H a (ns.map V.bl) := by
  cases q : lstP x μ with
  | none => rw [q] at e; cases e
  | some xs =>
    rw [q] at e
    obtain ⟨a, vs, h1, h2, h3, _⟩ := lstP_sq h r q
    rw [allB_rep h3 e] at h2
    exact ⟨a, h1, h2⟩
theorem seqP_sq {x : PV} {v : V} {xs : List PV} (h : HR K ι μ H) (r : Rep K ι H x v) (e : seqP x μ = some xs) : ∃ a vs, v = .ref a ∧ (SqL K H a vs ∨ SqT K H a vs) ∧ RepL K ι H xs vs := by
  unfold seqP at e
  split at e
  · cases e
    obtain ⟨a, vs, h1, h2, h3⟩ := r
    exact ⟨a, vs, h1, .inr h2, h3⟩
  · obtain ⟨a, vs, h1, h2, h3, _⟩ := lstP_sq h r (show lstP _ μ = some xs from e)
    exact ⟨a, vs, h1, .inl h2, h3⟩
  · obtain ⟨a, vs, h1, h2, h3, _⟩ := lstP_sq h r (show lstP _ μ = some xs from e)
    exact ⟨a, vs, h1, .inl h2, h3⟩
  · cases e
theorem al_abs : ApL K fAbs (fun xs H Q => ∃ i, xs = [.int i] ∧ Q (.int (if i < 0 then -i else i)) H) := by
  intro W ι μ H as xs Q hr ra h
  unfold fAbs at h
  split at h
  · obtain ⟨v, rfl, r⟩ := one_rep ra
    cases r
    exact ⟨_, rfl, h.ok hr rfl⟩
  · exact h.elim
def rLenG (K : PySem.W.Frag) : List V → Hp → VK → Prop := fun xs H Q => ∃ x n, xs = [x] ∧ LenV K x H n ∧ Q (.int n) H
theorem al_len : ApL K fLen (rLenG K) := by
  intro W ι μ H as xs Q hr ra h
  unfold fLen at h
  split at h
  · obtain ⟨v, rfl, r⟩ := one_rep ra
    obtain ⟨a, vs, rfl, s, r⟩ := r
    exact ⟨_, _, rfl, .inr ⟨vs, s, rfl⟩, by rw [r.length]; exact h.ok hr rfl⟩
  · obtain ⟨v, rfl, r⟩ := one_rep ra
    cases r
    split at h
    · rename_i c
      exact ⟨_, _, rfl, ⟨by rw [← line_eq]; exact c, rfl⟩, h.ok hr rfl⟩
    · exact h.elim
  · obtain ⟨v, rfl, r⟩ := one_rep ra
    split at h
    · rename_i ys q
      obtain ⟨a, vs, rfl, h2, h3, _⟩ := lstP_sq hr r q
      exact ⟨_, _, rfl, .inl ⟨vs, h2, rfl⟩, by rw [h3.length]; exact h.ok hr rfl⟩
    · exact h.elim
  · exact h.elim
theorem al_int : ApL K fInt (fun xs H Q => (∃ i, xs = [.int i] ∧ Q (.int i) H) ∨ ∃ k, xs = [.bl k] ∧ Q (.int (if k then 1 else 0)) H) := by
  intro W ι μ H as xs Q hr ra h
  unfold fInt at h
  split at h
  · obtain ⟨v, rfl, r⟩ := one_rep ra
    cases r
    exact .inl ⟨_, rfl, h.ok hr rfl⟩
  · obtain ⟨v, rfl, r⟩ := one_rep ra
    cases r
    exact .inr ⟨_, rfl, h.ok hr rfl⟩
  · exact h.elim
def rMaxG (K : PySem.W.Frag) : List V → Hp → VK → Prop := fun xs H Q => (∃ i j, xs = [.int i, .int j] ∧ Q (.int (if j > i then j else i)) H) ∨ rMax K xs H Q
def rMinG (K : PySem.W.Frag) : List V → Hp → VK → Prop := fun xs H Q => (∃ i j, xs = [.int i, .int j] ∧ Q (.int (if j < i then j else i)) H) ∨ rMin K xs H Q
theorem call_maxG {X : Cx} (hc : X.calm = true) : CallR X (.builtin "max") (rMaxG X.K) := (call_max2 hc).or (cr_max hc)
theorem call_minG {X : Cx} (hc : X.calm = true) : CallR X (.builtin "min") (rMinG X.K) := (call_min2 hc).or (cr_min hc)
theorem al_max : ApL K fMax (rMaxG K) := by
  intro W ι μ H as xs Q hr ra h
  unfold fMax at h
  split at h
  · obtain ⟨v, u, rfl, r, r2⟩ := two_rep ra
    cases r; cases r2
    exact .inl ⟨_, _, rfl, h.ok hr rfl⟩
  · obtain ⟨v, rfl, r⟩ := one_rep ra
    split at h
    · rename_i m rr q
      obtain ⟨a, rfl, h2⟩ := lstI_sq hr r q
      refine .inr ⟨a, _, rfl, h2, Nat.succ_pos _, fun z hz hz2 => ?_⟩
      obtain ⟨s1, s2, s3⟩ := maxI_spec rr m
      have e1 : z ≤ maxI m rr := by
        rcases List.mem_cons.mp hz with rfl | hz
        · exact s2
        · exact s3 z hz
      have e2 : maxI m rr ≤ z := hz2 _ (by
        rcases s1 with s1 | s1
        · rw [s1]; exact List.mem_cons_self
        · exact List.mem_cons_of_mem _ s1)
      have e3 : z = maxI m rr := by omega
      rw [e3]
      exact h.ok hr rfl
    · exact h.elim
  · exact h.elim
theorem al_min : ApL K fMin (rMinG K) := by
  intro W ι μ H as xs Q hr ra h
  unfold fMin at h
  split at h
  · obtain ⟨v, u, rfl, r, r2⟩ := two_rep ra
    cases r; cases r2
    exact .inl ⟨_, _, rfl, h.ok hr rfl⟩
  · obtain ⟨v, rfl, r⟩ := one_rep ra
    split at h
    · rename_i m rr q
      obtain ⟨a, rfl, h2⟩ := lstI_sq hr r q
      refine .inr ⟨a, _, rfl, h2, Nat.succ_pos _, fun z hz hz2 => ?_⟩
      obtain ⟨s1, s2, s3⟩ := minI_spec rr m
      have e1 : minI m rr ≤ z := by
        rcases List.mem_cons.mp hz with rfl | hz
        · exact s2
        · exact s3 z hz
      have e2 : z ≤ minI m rr := hz2 _ (by
        rcases s1 with s1 | s1
        · rw [s1]; exact List.mem_cons_self
        · exact List.mem_cons_of_mem _ s1)
      have e3 : z = minI m rr := by omega
      rw [e3]
      exact h.ok hr rfl
    · exact h.elim
  · exact h.elim
def rSumT (K : PySem.W.Frag) : List V → Hp → VK → Prop := fun vs H Q => ∃ (a : Addr) (ns : List Int), vs = [V.ref a] ∧ SqT K H a (ns.map V.int) ∧ Q (.int ns.sum) H
theorem cr_sumT {X : Cx} (hc : X.calm = true) : CallR X (.builtin "sum") (rSumT X.K) := by
  intro pins s σ H vs us Q I r h
  obtain ⟨a, ns, rfl, hs, q⟩ := h
  obtain ⟨its, rv, hl, _⟩ := I.tuple hs
  rw [Vals.ref1 r]
  have hi := rv.ints
  obtain ⟨xs, e⟩ := hi.allInts.items
  have hn : numsOf (intItems xs).toList = ns := by rw [← e]; exact hi.numsOf
  rw [nums_intItems] at hn
  rw [e] at hl
  refine PySem.W.ktm_sumG (I.ok.hd hc) (show s.heap.IsTuple a (intItems xs) from hl) fun h' tk t' hk => ?_
  rw [preSum_eq, List.take_of_length_le (by simp), hn]
  exact ⟨.int ns.sum, H, I.kept hk, ⟨_, rfl⟩, q⟩
def rSumG (K : PySem.W.Frag) : List V → Hp → VK → Prop := fun xs H Q => rSum K xs H Q ∨ rSumT K xs H Q
theorem call_sumG {X : Cx} (hc : X.calm = true) : CallR X (.builtin "sum") (rSumG X.K) := (cr_sum hc).or (cr_sumT hc)
theorem al_sum : ApL K fSum (rSumG K) := by
  intro W ι μ H as xs Q hr ra h
  unfold fSum at h
  split at h
  · obtain ⟨v, rfl, a, vs, rfl, s, r⟩ := one_rep ra
    split at h
    · rename_i ns q
      rw [allI_rep r q] at s
      exact .inr ⟨a, ns, rfl, s, h.ok hr rfl⟩
    · exact h.elim
  · obtain ⟨v, rfl, r⟩ := one_rep ra
    split at h
    · rename_i ns q
      obtain ⟨a, rfl, h2⟩ := lstI_sq hr r q
      exact .inl ⟨a, ns, rfl, h2, h.ok hr rfl⟩
    · exact h.elim
  · exact h.elim
theorem al_all : ApL K fAll (rAll K) := by
  intro W ι μ H as xs Q hr ra h
  unfold fAll at h
  split at h
  · obtain ⟨v, rfl, r⟩ := one_rep ra
    split at h
    · rename_i ns q
      obtain ⟨a, rfl, h2⟩ := lstB_sq hr r q
      exact ⟨a, ns, rfl, h2, h.ok hr rfl⟩
    · exact h.elim
  · exact h.elim
theorem al_any : ApL K fAny (rAny K) := by
  intro W ι μ H as xs Q hr ra h
  unfold fAny at h
  split at h
  · obtain ⟨v, rfl, r⟩ := one_rep ra
    split at h
    · rename_i ns q
      obtain ⟨a, rfl, h2⟩ := lstB_sq hr r q
      exact ⟨a, ns, rfl, h2, h.ok hr rfl⟩
    · exact h.elim
  · exact h.elim
def rListOf (K : PySem.W.Frag) : List V → Hp → VK → Prop := fun xs H Q => ∃ p ys, xs = [.ref p] ∧ (SqL K H p ys ∨ SqT K H p ys) ∧ ∀ l, H l = none → Q (.ref l) (upd H l (.lst ys))
def rTupleOf (K : PySem.W.Frag) : List V → Hp → VK → Prop := fun xs H Q => ∃ p ys, xs = [.ref p] ∧ ((SqL K H p ys ∧ ∀ l, H l = none → Q (.ref l) (upd H l (.tup ys))) ∨ (SqT K H p ys ∧ Q (.ref p) H))
theorem al_list : ApL K fList (rListOf K) := by
  intro W ι μ H as xs Q hr ra h
  unfold fList at h
  split at h
  · obtain ⟨v, rfl, r⟩ := one_rep ra
    split at h
    · rename_i ys q
      obtain ⟨a, vs, rfl, h2, h3⟩ := seqP_sq hr r q
      exact ⟨a, vs, rfl, h2, fun p hp => h.at_ (grow_new hp) (hr.new hp) (new_lst hr hp h3)⟩
    · exact h.elim
  · exact h.elim
theorem al_listT : ApL K fListT (rListOf K) := by
  intro W ι μ H as xs Q hr ra h
  unfold fListT at h
  split at h
  · obtain ⟨v, rfl, r⟩ := one_rep ra
    split at h
    · rename_i ys q
      obtain ⟨a, vs, rfl, h2, h3⟩ := seqP_sq hr r q
      exact ⟨a, vs, rfl, h2, fun p hp => h.at_ (grow_alloc hp) (hr.alloc hp h3) (alloc_ref hr)⟩
    · exact h.elim
  · exact h.elim
theorem al_tuple : ApL K fTuple (rTupleOf K) := by
  intro W ι μ H as xs Q hr ra h
  unfold fTuple at h
  split at h
  · obtain ⟨v, rfl, r⟩ := one_rep ra
    split at h
    · rename_i ys q
      obtain ⟨a, vs, rfl, h2, h3⟩ := seqP_sq hr r q
      rcases h2 with h2 | h2
      · exact ⟨a, vs, rfl, .inl ⟨h2, fun p hp => h.at_ (grow_new hp) (hr.new hp) ⟨p, _, rfl, .of upd_same, h3.grow (grow_new hp)⟩⟩⟩
      · exact ⟨a, vs, rfl, .inr ⟨h2, h.ok hr ⟨a, vs, rfl, h2, h3⟩⟩⟩
    · exact h.elim
  · exact h.elim
/-- sorted of a list of one item, whatever it is -/
def rSorted1 (K : PySem.W.Frag) : List V → Hp → VK → Prop := fun vs H Q => ∃ (a : Addr) (y : V), vs = [V.ref a] ∧ SqL K H a [y] ∧ ∀ p : Addr, H p = none → Q (.ref p) (upd H p (.lst [y]))
theorem cr_sorted1 {X : Cx} : CallR X (.builtin "sorted") (rSorted1 X.K) := by
  intro pins s σ H vs us Q I r h
  obtain ⟨a, y, rfl, hs, q⟩ := h
  obtain ⟨its, rv, hl, hz⟩ := I.list hs
  have l1 : its.length = 1 := by rw [← rv.length]; rfl
  rw [Vals.ref1 r]
  refine SrtO.sorted_ord SrtO.swo_int hl.isList (by rw [l1]; decide) (fun h2 _ _ _ _ => absurd h2 (by omega)) fun out _ s2 => ?_
  have e : out = its := by
    match its, l1 with
    | [v], _ => exact List.perm_singleton.mp s2.perm
  subst e
  obtain ⟨ep, e2⟩ := PyProof.Rows.sortedAll_at s.heap out out.toArray
  exact ⟨.ref _, upd H (s.heap.objs.size + 1) (.lst [y]), I.laid (t' := s.toks) (fun _ _ => PyProof.Rows.sortedAll_old) (Nat.le_succ _) ⟨hz, out, ep, rv, e2⟩, rfl, q _ (I.hok.fresh (Nat.le_succ _))⟩
def rSortedG (K : PySem.W.Frag) : List V → Hp → VK → Prop := fun xs H Q => rSortedI K xs H Q ∨ rSorted1 K xs H Q
theorem cr_sortedG {X : Cx} : CallR X (.builtin "sorted") (rSortedG X.K) := cr_sortedI.or cr_sorted1
theorem al_sorted : ApL K fSorted (rSortedG K) := by
  intro W ι μ H as xs Q hr ra h
  unfold fSorted at h
  split at h
  · obtain ⟨v, rfl, r⟩ := one_rep ra
    split at h
    · rename_i ns q
      obtain ⟨a, rfl, h2⟩ := lstI_sq hr r q
      refine .inl ⟨a, ns, rfl, h2, fun ys p hp hs hn => ?_⟩
      have e : ys = sortI ns := PySem.W.ksm_same (hp.trans (sortI_perm ns).symm) hs (sortI_sorted ns)
      rw [e]
      exact h.at_ (grow_new hn) (hr.new hn) (new_lst hr hn (rep_ints _))
    · split at h
      · rename_i y q
        obtain ⟨a, vs, rfl, h2, h3, _⟩ := lstP_sq hr r q
        obtain ⟨v, us, rfl, r1, r2⟩ := h3
        cases us with
        | cons _ _ => exact absurd r2.length (by simp)
        | nil => exact .inr ⟨a, v, rfl, h2, fun p hn => h.at_ (grow_new hn) (hr.new hn) (new_lst hr hn (.cons_ r1 .nil_))⟩
      · exact h.elim
  · exact h.elim
/-! ### isinstance -/
def tyN (x : PV) (μ : Mu) : Option String := match x with
  | .non => some "NoneType"
  | .bl _ => some "bool"
  | .int _ => some "int"
  | .str _ => some "str"
  | .tup _ => some "tuple"
  | .lst _ => some "list"
  | .scr _ => none
  | .ref l => (getL μ l).map fun _ => "list"
  | .raw _ => none
def isTy (a b : String) : Option Bool := match a, b with
  | "NoneType", "int" => some false
  | "NoneType", "bool" => some false
  | "NoneType", "str" => some false
  | "NoneType", "list" => some false
  | "NoneType", "tuple" => some false
  | "NoneType", "dict" => some false
  | "bool", "int" => some true
  | "bool", "bool" => some true
  | "bool", "str" => some false
  | "bool", "list" => some false
  | "bool", "tuple" => some false
  | "bool", "dict" => some false
  | "int", "int" => some true
  | "int", "bool" => some false
  | "int", "str" => some false
  | "int", "list" => some false
  | "int", "tuple" => some false
  | "int", "dict" => some false
  | "str", "int" => some false
  | "str", "bool" => some false
  | "str", "str" => some true
  | "str", "list" => some false
  | "str", "tuple" => some false
  | "str", "dict" => some false
  | "list", "int" => some false
  | "list", "bool" => some false
  | "list", "str" => some false
  | "list", "list" => some true
  | "list", "tuple" => some false
  | "list", "dict" => some false
  | "tuple", "int" => some false
  | "tuple", "bool" => some false
  | "tuple", "str" => some false
  | "tuple", "list" => some false
  | "tuple", "tuple" => some true
  | "tuple", "dict" => some false
  | _, _ => none
theorem isTy_ok {a b : String} {r : Bool} (h : isTy a b = some r) : kitB a b = some r := by
  unfold isTy at h
  split at h <;> first | (cases h; decide +kernel) | cases h
def isTyL (a : String) : List String → Option Bool
  | [] => some false
  | b :: r => match isTy a b, isTyL a r with
    | some x, some y => some (x || y)
    | _, _ => none
def fIsi (b : String) (x : PV) (μ : Mu) : R PV := match (tyN x μ).bind fun a => isTy a b with
  | some k => .ok (.bl k) μ
  | none => .bad
def fIsiL (cs : List String) (x : PV) (μ : Mu) : R PV := match (tyN x μ).bind fun a => isTyL a cs with
  | some k => .ok (.bl k) μ
  | none => .bad
theorem tyN_ok {x : PV} {v : V} {a : String} (hr : HR K ι μ H) (r : Rep K ι H x v) (e : tyN x μ = some a) : TyX K H v (.type a) := by
  cases x with
  | non => cases e; cases r; exact .base .non
  | bl _ => cases e; cases r; exact .base (.bl _)
  | int _ => cases e; cases r; exact .base (.int _)
  | str _ => cases e; cases r; exact .base (.str _)
  | tup _ =>
    cases e
    obtain ⟨p, vs, rfl, s, _⟩ := r
    rcases s with (s | ⟨o, s⟩) | ⟨o, its, n, h1, h2, _⟩
    · exact .base (.tup s)
    · exact .fTuple s
    · exact .kTuple h1 h2
  | lst _ =>
    cases e
    obtain ⟨p, vs, rfl, s, _⟩ := r
    exact .base (.lst s.1)
  | scr _ => cases e
  | ref l =>
    unfold tyN at e
    simp only at e
    cases q : getL μ l with
    | none => rw [q] at e; cases e
    | some xs =>
      rw [q] at e
      cases e
      obtain ⟨p, vs, h1, _, _, h4⟩ := getL_sq hr q
      obtain rfl := ref_eq r h1
      exact .base (.lst h4)
  | raw _ => cases e
theorem isTyL_ok {a : String} : ∀ {cs : List String} {k : Bool}, isTyL a cs = some k → PySem.W.kitAny K (.type a) (cs.map .type) = some k
  | [], _, e => by cases e; exact kitAny_nil
  | b :: cs, k, e => by
    unfold isTyL at e
    cases q : isTy a b with
    | none => rw [q] at e; cases e
    | some m => cases q2 : isTyL a cs with
      | none => rw [q, q2] at e; cases e
      | some n =>
        rw [q, q2] at e
        cases e
        exact kitAny_cons (kit_ty (isTy_ok q)) (fun z => by rw [z, Bool.false_or]; exact isTyL_ok q2) (fun z => by rw [z, Bool.true_or])
theorem clsV_all : ∀ cs : List String, Paired ClsV (cs.map V.ty) (cs.map Value.type)
  | [] => .nil
  | b :: r => .cons (.ty b) (clsV_all r)
end
section
variable {X : Cx} {W : WS} {a : Expr} {da : Dn PV} {pos p : Pos} {es : List Expr}
/-- written classes in a row -/
def tCs (cs : List String) : TA := fun _ H Q => Q (cs.map V.ty) H
theorem c_nil : PA X [] (tCs []) := pa_nil.mono fun σ H Q h => h
theorem c_cons {x : Str} {T : String} {cs : List String} {q : Pos} (hg : Gl X x) (hm : X.mg x = none) (hv : bootBuiltins x = some (.type T)) (hr : PA X es (tCs cs)) (hn : x ≠ "__name__" := by decide) (hd : (x == ("__debug__" : Str)) = false := by decide)
    (hs : starEach (.Name x q :: es) X.env = (false, eval (.Name x q) X.env) :: starEach es X.env := by rfl) : PA X (.Name x q :: es) (tCs (T :: cs)) :=
  (pa_cons (pe_bltn (v := .ty T) hg hm hv rfl hn hd) hr hs).mono fun σ H Q h => h
theorem e_isi {T : String} {e : Expr} (hg : Gl X "isinstance") (hm : X.mg "isinstance" = none) (ha : PE X a (LE X.K W da)) (ht : PA X [e] (tCs [T]))
    (he : starEach (a :: [e]) X.env = (false, eval a X.env) :: starEach [e] X.env := by rfl) (hpl : (backTo pos (starEach [e] X.env)).any (·.1) = false := by rfl) : PE X (.Call (.Name "isinstance" p) (a :: [e]) [] pos) (LE X.K W (dUn (fIsi T) da)) := by
  refine (pe_callB call_isi hg hm (by decide +kernel) (pa_cons ha ht he) (by decide) (by decide) he hpl).mono fun σ H Q ⟨ρ, μ, ι, sr, hr, h⟩ => ?_
  refine ⟨ρ, μ, ι, sr, hr, Post.mono (Post.bind h) ?_⟩
  rintro v H1 ⟨x, μ1, ι1, g1, hr1, r1, h1⟩
  unfold fIsi at h1
  cases q : tyN x μ1 with
  | none => rw [q] at h1; exact h1.elim
  | some t =>
    cases q2 : isTy t T with
    | none => rw [q, Option.bind_some, q2] at h1; exact h1.elim
    | some k =>
      rw [q, Option.bind_some, q2] at h1
      exact ⟨v, .ty T, .type t, .type T, k, rfl, .ty T, tyN_ok hr1 r1 q, kit_ty (isTy_ok q2), h1.ok hr1 rfl⟩
theorem e_isiL {cs : List String} {ts : List Expr} {k : Nat} {p2 : Pos} (hg : Gl X "isinstance") (hm : X.mg "isinstance" = none) (ha : PE X a (LE X.K W da)) (ht : PA X ts (tCs cs)) (hc : cs.length ≤ 10)
    (he : starEach (a :: [.Tuple ts k p2]) X.env = (false, eval a X.env) :: starEach [.Tuple ts k p2] X.env := by rfl) (he2 : starEach (.Tuple ts k p2 :: []) X.env = (false, eval (.Tuple ts k p2) X.env) :: starEach [] X.env := by rfl) (hpl : (backTo pos (starEach [.Tuple ts k p2] X.env)).any (·.1) = false := by rfl) :
    PE X (.Call (.Name "isinstance" p) (a :: [.Tuple ts k p2]) [] pos) (LE X.K W (dUn (fIsiL cs) da)) := by
  refine (pe_callB call_isiT hg hm (by decide +kernel) (pa_cons ha (pa_cons (pe_tup ht) pa_nil he2) he) (by decide) (by decide) he hpl).mono fun σ H Q ⟨ρ, μ, ι, sr, hr, h⟩ => ?_
  refine ⟨ρ, μ, ι, sr, hr, Post.mono (Post.bind h) ?_⟩
  rintro v H1 ⟨x, μ1, ι1, g1, hr1, r1, h1⟩
  unfold fIsiL at h1
  cases q : tyN x μ1 with
  | none => rw [q] at h1; exact h1.elim
  | some t =>
    cases q2 : isTyL t cs with
    | none => rw [q, Option.bind_some, q2] at h1; exact h1.elim
    | some k =>
      rw [q, Option.bind_some, q2] at h1
      refine ⟨by rw [List.length_map, sizeLine_eq]; omega, fun p hp => ?_⟩
      have g2 : Grow X.K ι1 H1 ι1 (upd H1 p (.tup (cs.map V.ty))) := grow_new hp
      exact ⟨v, p, cs.map V.ty, .type t, cs.map Value.type, k, rfl, upd_same, clsV_all cs, tyN_ok (hr1.new hp) (r1.grow g2) q, isTyL_ok q2, h1.at_ g2 (hr1.new hp) rfl⟩
end
end GB
set_option Elab.async false
set_option linter.all false
set_option maxRecDepth 100000
set_option maxHeartbeats 2000000
namespace GB
open PySem PySem.Spec PyProof.Rows L2
/-! ### built-ins by name -/
section
variable {X : Cx} {W : WS} {a b : Expr} {da db : Dn PV} {es : List Expr} {dl : Dn (List PV)} {pos p : Pos}
theorem e_abs (hm : X.mg "abs" = none) (ha : PA X (a :: es) (LA X.K W dl)) (hg : Gl X "abs" := by rfl) (he : starEach (a :: es) X.env = (false, eval a X.env) :: starEach es X.env := by rfl) (hpl : (backTo pos (starEach es X.env)).any (·.1) = false := by rfl) : PE X (.Call (.Name "abs" p) (a :: es) [] pos) (LE X.K W (dApp fAbs dl)) := e_callB call_abs al_abs hg hm (by decide +kernel) ha (by decide) (by decide) he hpl
theorem e_len (hm : X.mg "len" = none) (ha : PA X (a :: es) (LA X.K W dl)) (hg : Gl X "len" := by rfl) (he : starEach (a :: es) X.env = (false, eval a X.env) :: starEach es X.env := by rfl) (hpl : (backTo pos (starEach es X.env)).any (·.1) = false := by rfl) : PE X (.Call (.Name "len" p) (a :: es) [] pos) (LE X.K W (dApp fLen dl)) := e_callB (r := rLenG X.K) call_len al_len hg hm PySem.boot_len ha (by decide) (by decide) he hpl
theorem e_intc (hm : X.mg "int" = none) (ha : PA X (a :: es) (LA X.K W dl)) (hg : Gl X "int" := by rfl) (he : starEach (a :: es) X.env = (false, eval a X.env) :: starEach es X.env := by rfl) (hpl : (backTo pos (starEach es X.env)).any (·.1) = false := by rfl) : PE X (.Call (.Name "int" p) (a :: es) [] pos) (LE X.K W (dApp fInt dl)) := e_callTy call_int1 al_int hg hm (by decide +kernel) ha (by decide) (by decide) he hpl
theorem e_max (hm : X.mg "max" = none) (ha : PA X (a :: es) (LA X.K W dl)) (hc : X.calm = true := by rfl) (hg : Gl X "max" := by rfl) (he : starEach (a :: es) X.env = (false, eval a X.env) :: starEach es X.env := by rfl) (hpl : (backTo pos (starEach es X.env)).any (·.1) = false := by rfl) : PE X (.Call (.Name "max" p) (a :: es) [] pos) (LE X.K W (dApp fMax dl)) := e_callB (call_maxG hc) al_max hg hm (by decide +kernel) ha (by decide) (by decide) he hpl
theorem e_min (hm : X.mg "min" = none) (ha : PA X (a :: es) (LA X.K W dl)) (hc : X.calm = true := by rfl) (hg : Gl X "min" := by rfl) (he : starEach (a :: es) X.env = (false, eval a X.env) :: starEach es X.env := by rfl) (hpl : (backTo pos (starEach es X.env)).any (·.1) = false := by rfl) : PE X (.Call (.Name "min" p) (a :: es) [] pos) (LE X.K W (dApp fMin dl)) := e_callB (call_minG hc) al_min hg hm (by decide +kernel) ha (by decide) (by decide) he hpl
theorem e_sum (hm : X.mg "sum" = none) (ha : PA X (a :: es) (LA X.K W dl)) (hc : X.calm = true := by rfl) (hg : Gl X "sum" := by rfl) (he : starEach (a :: es) X.env = (false, eval a X.env) :: starEach es X.env := by rfl) (hpl : (backTo pos (starEach es X.env)).any (·.1) = false := by rfl) : PE X (.Call (.Name "sum" p) (a :: es) [] pos) (LE X.K W (dApp fSum dl)) := e_callB (call_sumG hc) al_sum hg hm (by decide +kernel) ha (by decide) (by decide) he hpl
theorem e_all (hm : X.mg "all" = none) (ha : PA X (a :: es) (LA X.K W dl)) (hc : X.calm = true := by rfl) (hg : Gl X "all" := by rfl) (he : starEach (a :: es) X.env = (false, eval a X.env) :: starEach es X.env := by rfl) (hpl : (backTo pos (starEach es X.env)).any (·.1) = false := by rfl) : PE X (.Call (.Name "all" p) (a :: es) [] pos) (LE X.K W (dApp fAll dl)) := e_callB (cr_all hc) al_all hg hm (by decide +kernel) ha (by decide) (by decide) he hpl
theorem e_any (hm : X.mg "any" = none) (ha : PA X (a :: es) (LA X.K W dl)) (hc : X.calm = true := by rfl) (hg : Gl X "any" := by rfl) (he : starEach (a :: es) X.env = (false, eval a X.env) :: starEach es X.env := by rfl) (hpl : (backTo pos (starEach es X.env)).any (·.1) = false := by rfl) : PE X (.Call (.Name "any" p) (a :: es) [] pos) (LE X.K W (dApp fAny dl)) := e_callB (cr_any hc) al_any hg hm (by decide +kernel) ha (by decide) (by decide) he hpl
theorem e_sorted (hm : X.mg "sorted" = none) (ha : PA X (a :: es) (LA X.K W dl)) (hg : Gl X "sorted" := by rfl) (he : starEach (a :: es) X.env = (false, eval a X.env) :: starEach es X.env := by rfl) (hpl : (backTo pos (starEach es X.env)).any (·.1) = false := by rfl) : PE X (.Call (.Name "sorted" p) (a :: es) [] pos) (LE X.K W (dApp fSorted dl)) := e_callB cr_sortedG al_sorted hg hm (by decide +kernel) ha (by decide) (by decide) he hpl
theorem e_list (hm : X.mg "list" = none) (ha : PA X (a :: es) (LA X.K W dl)) (hg : Gl X "list" := by rfl) (he : starEach (a :: es) X.env = (false, eval a X.env) :: starEach es X.env := by rfl) (hpl : (backTo pos (starEach es X.env)).any (·.1) = false := by rfl) : PE X (.Call (.Name "list" p) (a :: es) [] pos) (LE X.K W (dApp fList dl)) := e_callTy (r := rListOf X.K) call_list_of al_list hg hm (by decide +kernel) ha (by decide) (by decide) he hpl
theorem e_listT (hm : X.mg "list" = none) (ha : PA X (a :: es) (LA X.K W dl)) (hg : Gl X "list" := by rfl) (he : starEach (a :: es) X.env = (false, eval a X.env) :: starEach es X.env := by rfl) (hpl : (backTo pos (starEach es X.env)).any (·.1) = false := by rfl) : PE X (.Call (.Name "list" p) (a :: es) [] pos) (LE X.K W (dApp fListT dl)) := e_callTy (r := rListOf X.K) call_list_of al_listT hg hm (by decide +kernel) ha (by decide) (by decide) he hpl
theorem e_tuple (hm : X.mg "tuple" = none) (ha : PA X (a :: es) (LA X.K W dl)) (hg : Gl X "tuple" := by rfl) (he : starEach (a :: es) X.env = (false, eval a X.env) :: starEach es X.env := by rfl) (hpl : (backTo pos (starEach es X.env)).any (·.1) = false := by rfl) : PE X (.Call (.Name "tuple" p) (a :: es) [] pos) (LE X.K W (dApp fTuple dl)) := e_callTy (r := rTupleOf X.K) call_tuple_of al_tuple hg hm (by decide +kernel) ha (by decide) (by decide) he hpl
end
/-! ### methods of lists -/
def dMeth (f : PV → List PV → Mu → R PV) (a : Dn PV) (l : Dn (List PV)) : Dn PV := fun ρ μ => (a ρ μ).bind fun x μ => match x with
  | .ref k => match getL μ k with
    | some _ => (l ρ μ).bind fun ys μ => f (.ref k) ys μ
    | none => .bad
  | _ => .bad
def dMeth0 (f : PV → List PV → Mu → R PV) (a : Dn PV) : Dn PV := fun ρ μ => (a ρ μ).bind fun x μ => match x with
  | .ref k => match getL μ k with
    | some _ => f (.ref k) [] μ
    | none => .bad
  | _ => .bad
def fAppend (x : PV) (ys : List PV) (μ : Mu) : R PV := match x, ys with
  | .ref l, [y] => match getM μ l with
    | some xs => if xs.length < 16777216 then .ok .non (μ.set l (.lst (xs ++ [y]))) else .bad
    | none => .bad
  | _, _ => .bad
def fExtend (x : PV) (ys : List PV) (μ : Mu) : R PV := match x, ys with
  | .ref l, [y] => match getM μ l, lstP y μ with
    | some xs, some zs => if xs.length + zs.length ≤ 16777216 then .ok .non (μ.set l (.lst (xs ++ zs))) else .bad
    | _, _ => .bad
  | _, _ => .bad
def fPop (x : PV) (ys : List PV) (μ : Mu) : R PV := match x, ys with
  | .ref l, [] => match getM μ l with
    | some xs => match xs[xs.length - 1]? with
      | some y => .ok y (μ.set l (.lst xs.dropLast))
      | none => .bad
    | none => .bad
  | _, _ => .bad
/-- a method's rule told over my values -/
def MtL (K : PySem.W.Frag) (f : PV → List PV → Mu → R PV) (r : V → List V → Hp → VK → Prop) : Prop := ∀ (W : WE) ι μ H a as x xs Q, HR K ι μ H → Rep K ι H a x → RepL K ι H as xs → Post K W (fun ι H => Rep K ι H) ι H (f a as μ) Q → r x xs H Q
section
variable {K : PySem.W.Frag} {W : WS}
theorem ml_append : MtL K fAppend rAppend := by
  intro W ι μ H a as x xs Q hr ra ras h
  unfold fAppend at h
  split at h
  · obtain ⟨v, rfl, r1⟩ := one_rep ras
    split at h
    · rename_i q
      split at h
      · rename_i c
        obtain ⟨p, vs, h1, h2, h3⟩ := getM_at hr q
        obtain rfl := ref_eq ra h1
        exact ⟨p, vs, v, rfl, rfl, h2, by rw [h3.length, ← line_eq]; exact c, h.at_ (grow_write h1 h2) (hr.write (getM_of q) h1 h2 (h3.append (.cons_ r1 .nil_))) rfl⟩
      · exact h.elim
    · exact h.elim
  · exact h.elim
theorem ml_extend : MtL K fExtend rExtend := by
  intro W ι μ H a as x xs Q hr ra ras h
  unfold fExtend at h
  split at h
  · obtain ⟨v, rfl, r1⟩ := one_rep ras
    split at h
    · rename_i q1 q2
      split at h
      · rename_i c
        obtain ⟨p, vs, h1, h2, h3⟩ := getM_at hr q1
        obtain ⟨p2, vs2, rfl, _, i3, i2⟩ := lstP_sq hr r1 q2
        obtain rfl := ref_eq ra h1
        exact ⟨p, p2, vs, vs2, rfl, rfl, h2, i2, by rw [h3.length, i3.length, ← line_eq]; exact c, h.at_ (grow_write h1 h2) (hr.write (getM_of q1) h1 h2 (h3.append i3)) rfl⟩
      · exact h.elim
    · exact h.elim
  · exact h.elim
theorem ml_pop : MtL K fPop rPop := by
  intro W ι μ H a as x xs Q hr ra ras h
  unfold fPop at h
  split at h
  · rw [show xs = [] from ras]
    split at h
    · rename_i ys q
      split at h
      · rename_i y e
        obtain ⟨p, vs, h1, h2, h3⟩ := getM_at hr q
        obtain rfl := ref_eq ra h1
        obtain ⟨u, e1, e2⟩ := h3.get e
        have hd : RepL K ι H ys.dropLast vs.dropLast := by
          rw [List.dropLast_eq_take, List.dropLast_eq_take, h3.length]
          exact h3.take _
        exact ⟨p, vs, u, rfl, rfl, h2, by rw [h3.length]; exact e1, h.at_ (grow_write h1 h2) (hr.write (getM_of q) h1 h2 hd) (e2.grow (grow_write h1 h2))⟩
      · exact h.elim
    · exact h.elim
  · exact h.elim
theorem tyV_list {ι : Io} {μ : Mu} {H : Hp} {l : Nat} {xs : List PV} {v : V} (hr : HR K ι μ H) (e : getL μ l = some xs) (r : Rep K ι H (.ref l) v) : tyV K "list" v H := by
  obtain ⟨a, vs, h1, h2, _⟩ := getL_sq hr e
  obtain rfl := ref_eq r h1
  exact .inl ⟨rfl, vs, h2⟩
end
section
variable {X : Cx} {W : WS} {o e : Expr} {da : Dn PV} {es : List Expr} {dl : Dn (List PV)} {apos cpos : Pos} {name : Str} {id : String} {f : PV → List PV → Mu → R PV} {r : V → List V → Hp → VK → Prop}
theorem e_meth (slot : Slot "list" name id) (hty : typeOf (.builtin id) = pure (.type "method_descriptor")) (hm : MtR X id r) (hl : MtL X.K f r) (ho : PE X o (LE X.K W da)) (ha : PA X (e :: es) (LA X.K W dl))
    (hbase : attributeBase o name X.env (eval o X.env) = eval o X.env := by rfl)
    (hfew : ((backTo cpos (starEach (e :: es) X.env)).all (fun x => !x.1) && (backToKw cpos (keywordEach [] X.env)).all (fun x => x.1.isSome)
      && decide ((e :: es).length + ([] : List Keyword).length + (if ([] : List Keyword).isEmpty then 0 else 1) < 30)) = true := by rfl)
    (hline : (apos.endLine == cpos.line) = true := by rfl) (hs : starEach (e :: es) X.env = (false, eval e X.env) :: starEach es X.env := by rfl) (hplain : (backTo cpos (starEach es X.env)).any (·.1) = false := by rfl) :
    PE X (.Call (.Attribute o name apos) (e :: es) [] cpos) (LE X.K W (dMeth f da dl)) := by
  refine (pe_bm PySem.F.plainAttrs_list slot hty hm ho ha hbase hfew hline hs hplain).mono fun σ H Q ⟨ρ, μ, ι, sr, hr, h⟩ => ?_
  refine ⟨ρ, μ, ι, sr, hr, Post.mono (Post.bind h) ?_⟩
  rintro v H1 ⟨x, μ1, ι1, g1, hr1, r1, h1⟩
  cases x with
  | ref k =>
    simp only at h1
    cases q : getL μ1 k with
    | none => rw [q] at h1; exact h1.elim
    | some xs =>
      rw [q] at h1
      refine ⟨tyV_list hr1 q r1, ρ, μ1, ι1, sr.grow g1, hr1, Post.mono (Post.bind h1) ?_⟩
      rintro u H2 ⟨y, μ2, ι2, g2, hr2, r2, h2⟩
      exact hl _ _ _ _ _ _ _ _ _ hr2 (r1.grow g2) r2 h2
  | _ => exact h1.elim
theorem e_meth0 (slot : Slot "list" name id) (hty : typeOf (.builtin id) = pure (.type "method_descriptor")) (hm : MtR X id r) (hl : MtL X.K f r) (ho : PE X o (LE X.K W da))
    (hbase : attributeBase o name X.env (eval o X.env) = eval o X.env := by rfl) (hline : (apos.endLine == cpos.line) = true := by rfl) :
    PE X (.Call (.Attribute o name apos) [] [] cpos) (LE X.K W (dMeth0 f da)) := by
  refine (pe_bm0 PySem.F.plainAttrs_list slot hty hm ho hbase hline).mono fun σ H Q ⟨ρ, μ, ι, sr, hr, h⟩ => ?_
  refine ⟨ρ, μ, ι, sr, hr, Post.mono (Post.bind h) ?_⟩
  rintro v H1 ⟨x, μ1, ι1, g1, hr1, r1, h1⟩
  cases x with
  | ref k =>
    simp only at h1
    cases q : getL μ1 k with
    | none => rw [q] at h1; exact h1.elim
    | some xs =>
      rw [q] at h1
      exact ⟨tyV_list hr1 q r1, hl _ _ _ _ _ _ _ _ _ hr1 r1 .nil_ h1⟩
  | _ => exact h1.elim
theorem e_append (ho : PE X o (LE X.K W da)) (ha : PA X (e :: es) (LA X.K W dl))
    (hbase : attributeBase o "append" X.env (eval o X.env) = eval o X.env := by rfl)
    (hfew : ((backTo cpos (starEach (e :: es) X.env)).all (fun x => !x.1) && (backToKw cpos (keywordEach [] X.env)).all (fun x => x.1.isSome)
      && decide ((e :: es).length + ([] : List Keyword).length + (if ([] : List Keyword).isEmpty then 0 else 1) < 30)) = true := by rfl)
    (hline : (apos.endLine == cpos.line) = true := by rfl) (hs : starEach (e :: es) X.env = (false, eval e X.env) :: starEach es X.env := by rfl) (hplain : (backTo cpos (starEach es X.env)).any (·.1) = false := by rfl) :
    PE X (.Call (.Attribute o "append" apos) (e :: es) [] cpos) (LE X.K W (dMeth fAppend da dl)) := e_meth PySem.F.slot_list_append PySem.F.type_list_append mt_append ml_append ho ha hbase hfew hline hs hplain
theorem e_extend (ho : PE X o (LE X.K W da)) (ha : PA X (e :: es) (LA X.K W dl))
    (hbase : attributeBase o "extend" X.env (eval o X.env) = eval o X.env := by rfl)
    (hfew : ((backTo cpos (starEach (e :: es) X.env)).all (fun x => !x.1) && (backToKw cpos (keywordEach [] X.env)).all (fun x => x.1.isSome)
      && decide ((e :: es).length + ([] : List Keyword).length + (if ([] : List Keyword).isEmpty then 0 else 1) < 30)) = true := by rfl)
    (hline : (apos.endLine == cpos.line) = true := by rfl) (hs : starEach (e :: es) X.env = (false, eval e X.env) :: starEach es X.env := by rfl) (hplain : (backTo cpos (starEach es X.env)).any (·.1) = false := by rfl) :
    PE X (.Call (.Attribute o "extend" apos) (e :: es) [] cpos) (LE X.K W (dMeth fExtend da dl)) := e_meth PySem.F.slot_list_extend PySem.F.type_list_extend mt_extend ml_extend ho ha hbase hfew hline hs hplain
theorem e_pop (ho : PE X o (LE X.K W da)) (hbase : attributeBase o "pop" X.env (eval o X.env) = eval o X.env := by rfl) (hline : (apos.endLine == cpos.line) = true := by rfl) :
    PE X (.Call (.Attribute o "pop" apos) [] [] cpos) (LE X.K W (dMeth0 fPop da)) := e_meth0 PySem.F.slot_list_pop PySem.F.type_list_pop mt_pop ml_pop ho hbase hline
end

/-! ### statements -/
inductive O where
  | nx (ρ : Rho) (μ : Mu)
  | rt (v : PV) (μ : Mu)
  | bk (ρ : Rho) (μ : Mu)
  | ct (ρ : Rho) (μ : Mu)
  | exc (e : Ex) (ρ : Rho) (μ : Mu)
  | bad
abbrev DS := Rho → Mu → O
def R.thn {α : Type} (r : R α) (ρ : Rho) (f : α → Mu → O) : O := match r with
  | .ok a μ => f a μ
  | .exc e μ => .exc e ρ μ
  | .bad => .bad
@[simp] theorem R.thn_ok {α : Type} {a : α} {μ : Mu} {ρ : Rho} {f : α → Mu → O} : (R.ok a μ).thn ρ f = f a μ := ndf rfl
@[simp] theorem R.thn_exc {α : Type} {e : Ex} {μ : Mu} {ρ : Rho} {f : α → Mu → O} : (R.exc e μ : R α).thn ρ f = .exc e ρ μ := ndf rfl
@[simp] theorem R.thn_bad {α : Type} {ρ : Rho} {f : α → Mu → O} : (R.bad : R α).thn ρ f = .bad := ndf rfl
def PostS (K : PySem.W.Frag) (W : WS) (ι : Io) (H : Hp) (r : O) (D : Ends) : Prop := match r with
  | .nx ρ' μ' => ∀ σ' ι' H', Grow K ι H ι' H' → HR K ι' μ' H' → SR K ι' H' ρ' σ' → D.nx σ' H'
  | .bk ρ' μ' => ∀ σ' ι' H', Grow K ι H ι' H' → HR K ι' μ' H' → SR K ι' H' ρ' σ' → D.bk σ' H'
  | .ct ρ' μ' => ∀ σ' ι' H', Grow K ι H ι' H' → HR K ι' μ' H' → SR K ι' H' ρ' σ' → D.ct σ' H'
  | .rt v μ' => ∀ u ι' H', Grow K ι H ι' H' → HR K ι' μ' H' → Rep K ι' H' v u → D.rt u H'
  | .exc e ρ' μ' => ∀ σ' ι' H', Grow K ι H ι' H' → HR K ι' μ' H' → SR K ι' H' ρ' σ' → W σ' e ι' μ' H'
  | .bad => False
theorem PostS.rebase {K : PySem.W.Frag} {W : WS} {ι ι1 : Io} {H H1 : Hp} {r : O} {D : Ends} (h : PostS K W ι H r D) (g : Grow K ι H ι1 H1) : PostS K W ι1 H1 r D := by
  cases r with
  | nx ρ μ => exact fun σ' ι' H' g' hr sr => h σ' ι' H' (g.trans g') hr sr
  | bk ρ μ => exact fun σ' ι' H' g' hr sr => h σ' ι' H' (g.trans g') hr sr
  | ct ρ μ => exact fun σ' ι' H' g' hr sr => h σ' ι' H' (g.trans g') hr sr
  | rt ρ μ => exact fun σ' ι' H' g' hr sr => h σ' ι' H' (g.trans g') hr sr
  | exc e ρ μ => exact fun σ' ι' H' g' hr sr => h σ' ι' H' (g.trans g') hr sr
  | bad => exact h
/-- what an expression's result leads to -/
theorem Post.thn {α β : Type} {K : PySem.W.Frag} {W : WS} {Rr : Io → Hp → α → β → Prop} {ι : Io} {H : Hp} {σ : L2.St} {ρ : Rho} {r : R α} {f : α → Mu → O} {D : Ends} (sr : SR K ι H ρ σ) (h : PostS K W ι H (r.thn ρ f) D) :
    Post K (W σ) Rr ι H r fun v H1 => ∃ a μ1 ι1, Grow K ι H ι1 H1 ∧ HR K ι1 μ1 H1 ∧ Rr ι1 H1 a v ∧ SR K ι1 H1 ρ σ ∧ PostS K W ι1 H1 (f a μ1) D := by
  cases r with
  | ok a μ => exact fun v ι' H' g hr rr => ⟨a, μ, ι', g, hr, rr, sr.grow g, PostS.rebase h g⟩
  | exc e μ => exact fun ι' H' g hr => h σ ι' H' g hr (sr.grow g)
  | bad => exact h
def LS (K : PySem.W.Frag) (W : WS) (d : DS) : TS := fun D σ H => ∃ ρ μ ι, SR K ι H ρ σ ∧ HR K ι μ H ∧ PostS K W ι H (d ρ μ) D
def dSkip : DS := fun ρ μ => .nx ρ μ
def dSeq (a b : DS) : DS := fun ρ μ => match a ρ μ with
  | .nx ρ μ => b ρ μ
  | o => o
def dDrop (a : Dn PV) : DS := fun ρ μ => (a ρ μ).thn ρ fun _ μ => .nx ρ μ
def dRet (a : Dn PV) : DS := fun ρ μ => (a ρ μ).thn ρ fun v μ => .rt v μ
def dRetN : DS := fun _ μ => .rt .non μ
def dBrk : DS := fun ρ μ => .bk ρ μ
def dCnt : DS := fun ρ μ => .ct ρ μ
def dNever : DS := fun _ _ => .bad
def dIfS (t : Dn Bool) (a b : DS) : DS := fun ρ μ => (t ρ μ).thn ρ fun k μ => if k = true then a ρ μ else b ρ μ
/-- targets -/
abbrev DG := PV → Rho → Mu → R Rho
def gN (i : Nat) : DG := fun v ρ μ => .ok (ρ.set i (some v)) μ
abbrev DGs := List PV → Rho → Mu → R Rho
def gsN : DGs := fun vs ρ μ => match vs with
  | [] => .ok ρ μ
  | _ => .bad
def gsC (g : DG) (gs : DGs) : DGs := fun vs ρ μ => match vs with
  | v :: r => (g v ρ μ).bind fun ρ μ => gs r ρ μ
  | [] => .bad
def gT (n : Nat) (g : DGs) : DG := fun v ρ μ => match seqP v μ with
  | some xs => if xs.length = n then g xs ρ μ else .bad
  | none => .bad
def gSubL (a b : Dn PV) : DG := fun v ρ μ => (a ρ μ).bind fun o μ => (b ρ μ).bind fun i μ => match o, i with
  | .ref l, .int k => match getM μ l with
    | some xs => match ixN xs.length k with
      | some j => .ok ρ (μ.set l (.lst (xs.set j v)))
      | none => .bad
    | none => .bad
  | _, _ => .bad
def dAsg (a : Dn PV) (g : DG) : DS := fun ρ μ => (a ρ μ).thn ρ fun v μ => match g v ρ μ with
  | .ok ρ' μ' => .nx ρ' μ'
  | _ => .bad
def dPar (i j : Nat) (a : Dn (List PV)) : DS := fun ρ μ => (a ρ μ).thn ρ fun vs μ => match vs with
  | [v, w] => .nx ((ρ.set i (some v)).set j (some w)) μ
  | _ => .bad
def dPar3 (i j k : Nat) (a : Dn (List PV)) : DS := fun ρ μ => (a ρ μ).thn ρ fun vs μ => match vs with
  | [v, w, z] => .nx (((ρ.set i (some v)).set j (some w)).set k (some z)) μ
  | _ => .bad
def dAugI (f : Int → Int → Int) (i : Nat) (a : Dn PV) : DS := fun ρ μ => match ρ[i]? with
  | some (some (.int x)) => (a ρ μ).thn ρ fun v μ => match v with
    | .int y => .nx (ρ.set i (some (.int (f x y)))) μ
    | _ => .bad
  | _ => .bad
/-- while, with a lid of turns -/
def dWhileN (t : Dn Bool) (b : DS) : Nat → DS
  | 0 => fun _ _ => .bad
  | n + 1 => fun ρ μ => (t ρ μ).thn ρ fun k μ => if k = true then (match b ρ μ with
    | .nx ρ μ => dWhileN t b n ρ μ
    | .ct ρ μ => dWhileN t b n ρ μ
    | .bk ρ μ => .nx ρ μ
    | o => o) else .nx ρ μ
def lid : Nat := 1180591620717411303424
def dWhile (t : Dn Bool) (b : DS) : DS := dWhileN t b lid
section
variable {X : Cx} {W : WS} {a b e : Expr} {da db : Dn PV} {es : List Expr} {dl : Dn (List PV)} {pos p : Pos} {st : Stmt} {rest : List Stmt} {d1 d2 : DS} {ba : Dn Bool}
theorem ss_nil : PSs X [] (LS X.K W dSkip) := pss_nil.mono fun D σ H ⟨ρ, μ, ι, sr, hr, h⟩ => h σ ι H .refl hr sr
theorem seq_ok {K : PySem.W.Frag} {ι : Io} {H : Hp} {ρ : Rho} {μ : Mu} {D : Ends} (h : PostS K W ι H (dSeq d1 d2 ρ μ) D) : PostS K W ι H (d1 ρ μ) { D with nx := LS K W d2 D } := by
  unfold dSeq at h
  cases q : d1 ρ μ with
  | nx ρ' μ' => rw [q] at h; exact fun σ' ι' H' g hr sr => ⟨ρ', μ', ι', sr, hr, PostS.rebase h g⟩
  | bk ρ μ => rw [q] at h; exact h
  | ct ρ μ => rw [q] at h; exact h
  | rt ρ μ => rw [q] at h; exact h
  | exc e ρ μ => rw [q] at h; exact h
  | bad => rw [q] at h; exact h
theorem ss_cons (h1 : PS X st (LS X.K W d1)) (h2 : PSs X rest (LS X.K W d2)) : PSs X (st :: rest) (LS X.K W (dSeq d1 d2)) :=
  (pss_cons h1 h2).mono fun D σ H ⟨ρ, μ, ι, sr, hr, h⟩ => ⟨ρ, μ, ι, sr, hr, seq_ok h⟩
theorem ss_one (h1 : PS X st (LS X.K W d1)) : PSs X [st] (LS X.K W d1) := pss_one h1
theorem ss_never : PSs X rest (LS X.K W dNever) := pss_never.mono fun D σ H ⟨ρ, μ, ι, sr, hr, h⟩ => h
theorem s_never : PS X st (LS X.K W dNever) := ps_never.mono fun D σ H ⟨ρ, μ, ι, sr, hr, h⟩ => h
theorem s_pass : PS X (.Pass pos) (LS X.K W dSkip) := ps_pass.mono fun D σ H ⟨ρ, μ, ι, sr, hr, h⟩ => h σ ι H .refl hr sr
theorem s_brk : PS X (.Break pos) (LS X.K W dBrk) := ps_break.mono fun D σ H ⟨ρ, μ, ι, sr, hr, h⟩ => h σ ι H .refl hr sr
theorem s_cnt : PS X (.Continue pos) (LS X.K W dCnt) := ps_continue.mono fun D σ H ⟨ρ, μ, ι, sr, hr, h⟩ => h σ ι H .refl hr sr
theorem s_expr (he : PE X e (LE X.K W da)) (hs : swapsWith e none pos.line X.env = pure false := by rfl) : PS X (.Expr e pos) (LS X.K W (dDrop da)) := by
  refine (ps_expr he hs).mono fun D σ H ⟨ρ, μ, ι, sr, hr, h⟩ => ?_
  refine ⟨ρ, μ, ι, sr, hr, Post.mono (Post.thn sr h) ?_⟩
  rintro v H1 ⟨x, μ1, ι1, g1, hr1, r1, sr1, h1⟩
  exact h1 σ ι1 H1 .refl hr1 sr1
theorem s_ret (he : PE X e (LE X.K W da)) : PS X (.Return (some e) pos) (LS X.K W (dRet da)) := by
  refine (ps_ret he).mono fun D σ H ⟨ρ, μ, ι, sr, hr, h⟩ => ?_
  refine ⟨ρ, μ, ι, sr, hr, Post.mono (Post.thn sr h) ?_⟩
  rintro v H1 ⟨x, μ1, ι1, g1, hr1, r1, sr1, h1⟩
  exact h1 v ι1 H1 .refl hr1 r1
theorem s_retN : PS X (.Return none pos) (LS X.K W dRetN) := ps_retN.mono fun D σ H ⟨ρ, μ, ι, sr, hr, h⟩ => h .non ι H .refl hr rfl
theorem s_if {c : Expr} {as bs : List Stmt} (hc : PT X c (LT X.K W ba)) (ha : PSs X as (LS X.K W d1)) (hb : PSs X bs (LS X.K W d2)) : PS X (.If c as bs pos) (LS X.K W (dIfS ba d1 d2)) := by
  refine (ps_if hc ha hb).mono fun D σ H ⟨ρ, μ, ι, sr, hr, h⟩ => ?_
  refine ⟨ρ, μ, ι, sr, hr, Post.mono (Post.thn sr h) ?_⟩
  rintro v H1 ⟨x, μ1, ι1, g1, hr1, rfl, sr1, h1⟩
  cases x with
  | true => rw [if_pos rfl] at h1 ⊢; exact ⟨ρ, μ1, ι1, sr1, hr1, h1⟩
  | false => rw [if_neg Bool.false_ne_true] at h1 ⊢; exact ⟨ρ, μ1, ι1, sr1, hr1, h1⟩
/-- a target, lifted: no exception leaves it -/
def LG (K : PySem.W.Frag) (W : WS) (g : DG) : TG := fun v σ H Q => ∃ ρ μ ι x, SR K ι H ρ σ ∧ HR K ι μ H ∧ Rep K ι H x v ∧ ∃ ρ' μ', g x ρ μ = .ok ρ' μ' ∧ ∀ σ' ι' H', Grow K ι H ι' H' → HR K ι' μ' H' → SR K ι' H' ρ' σ' → Q σ' H'
def LGs (K : PySem.W.Frag) (W : WS) (g : DGs) : TGs := fun vs σ H Q => ∃ ρ μ ι xs, SR K ι H ρ σ ∧ HR K ι μ H ∧ RepL K ι H xs vs ∧ ∃ ρ' μ', g xs ρ μ = .ok ρ' μ' ∧ ∀ σ' ι' H', Grow K ι H ι' H' → HR K ι' μ' H' → SR K ι' H' ρ' σ' → Q σ' H'
theorem g_mono {t t' : TG} (h : PG X e t) (m : ∀ v σ H Q, t' v σ H Q → t v σ H Q) : PG X e t' := ⟨fun pins s σ H v u Q I r q => h.run pins s σ H v u Q I r (m _ _ _ _ q)⟩
theorem g_name {i : Nat} {x : Str} (hN : X.N.Nodup) (hi : X.N[i]? = some x := by rfl) (hx : Loc X.env.scope x := by first | exact Or.inl rfl | exact Or.inr rfl) (hf : X.fn x = true ∨ X.env.scope.names.lookup x = some .local := by first | exact .inl rfl | exact .inr rfl | assumption) : PG X (.Name x pos) (LG X.K W (gN i)) :=
  g_mono (pg_name hN hi hx hf) fun v σ H Q ⟨ρ, μ, ι, x, sr, hr, r, ρ', μ', e, h⟩ => by
    cases e
    exact h _ ι H .refl hr (sr.set r i)
theorem gs_mono {es : List Expr} {t t' : TGs} (h : PGs X es t) (m : ∀ v σ H Q, t' v σ H Q → t v σ H Q) : PGs X es t' := ⟨fun pins s σ H v u Q I r q => h.run pins s σ H v u Q I r (m _ _ _ _ q)⟩
theorem gs_nil : PGs X [] (LGs X.K W gsN) := gs_mono pgs_nil fun vs σ H Q ⟨ρ, μ, ι, xs, sr, hr, r, ρ', μ', e, h⟩ => by
  cases xs with
  | nil => cases e; exact ⟨r, h _ ι H .refl hr sr⟩
  | cons _ _ => cases e
theorem bind_ok {α β : Type} {r : R α} {f : α → Mu → R β} {b : β} {μ' : Mu} (h : r.bind f = .ok b μ') : ∃ a μ1, r = .ok a μ1 ∧ f a μ1 = .ok b μ' := by
  cases r with
  | ok a μ => exact ⟨a, μ, rfl, h⟩
  | exc e μ => cases h
  | bad => cases h
theorem gs_cons {g : DG} {gs : DGs} (h1 : PG X e (LG X.K W g)) (h2 : PGs X es (LGs X.K W gs))
    (hs : (assignEach (e :: es) X.env).map (·.2) = assign e X.env :: (assignEach es X.env).map (·.2) := by rfl) : PGs X (e :: es) (LGs X.K W (gsC g gs)) :=
  gs_mono (pgs_cons h1 h2 hs) fun vs σ H Q ⟨ρ, μ, ι, xs, sr, hr, r, ρ', μ', e, h⟩ => by
    cases xs with
    | nil => cases e
    | cons x xs =>
      obtain ⟨v, vr, rfl, r1, r2⟩ := r
      obtain ⟨ρ1, μ1, e1, e2⟩ := bind_ok e
      refine ⟨v, vr, rfl, ρ, μ, ι, x, sr, hr, r1, ρ1, μ1, e1, fun σ1 ι1 H1 g1 hr1 sr1 => ?_⟩
      exact ⟨ρ1, μ1, ι1, xs, sr1, hr1, r2.grow g1, ρ', μ', e2, fun σ2 ι2 H2 g2 hr2 sr2 => h σ2 ι2 H2 (g1.trans g2) hr2 sr2⟩
theorem g_tup {k : Nat} {n : Nat} {gs : DGs} (hc : X.calm = true) (h : PGs X es (LGs X.K W gs))
    (hn : (assignEach es X.env).length = n := by rfl) (hst : (assignEach es X.env).findIdx? (·.1) = none := by rfl) : PG X (.Tuple es k pos) (LG X.K W (gT n gs)) := by
  have h1 := pg_tup (k := k) (pos := pos) hc h hn hst
  have h2 := pg_unl (k := k) (pos := pos) hc h hn hst
  refine ⟨fun pins s σ H v u Q I r q => ?_⟩
  obtain ⟨ρ, μ, ι, x, sr, hr, rx, ρ', μ', e, hq⟩ := q
  unfold gT at e
  cases q2 : seqP x μ with
  | none => rw [q2] at e; cases e
  | some xs =>
    rw [q2] at e
    simp only at e
    split at e
    · rename_i hl
      obtain ⟨a, vs, rfl, s1, r1⟩ := seqP_sq hr rx q2
      have hz : LGs X.K W gs vs σ H Q := ⟨ρ, μ, ι, xs, sr, hr, r1, ρ', μ', e, hq⟩
      rcases s1 with s1 | s1
      · exact h2.run pins s σ H _ u Q I r ⟨a, vs, rfl, s1, by rw [r1.length]; exact hl, hz⟩
      · exact h1.run pins s σ H _ u Q I r ⟨a, vs, rfl, s1, by rw [r1.length]; exact hl, hz⟩
    · cases e
theorem g_sub {o i : Expr} (ho : PE X o (LE X.K W da)) (hi : PE X i (LE X.K W db)) (ha : ∀ v, assign (.Subscript o i pos) X.env v = (do
      let ov ← holding [v] (eval o X.env)
      let iv ← holding [v, ov] (eval i X.env)
      standAt pos
      holding [v, ov, iv] (setItem ov iv v)
      release [v, ov, iv] []) := by intro _; rfl) : PG X (.Subscript o i pos) (LG X.K W (gSubL da db)) :=
  g_mono (pg_sub ho hi set_list ha) fun v σ H Q ⟨ρ, μ, ι, x, sr, hr, r, ρ', μ', e, h⟩ => by
    obtain ⟨ov, μ1, e1, e2⟩ := bind_ok e
    refine ⟨ρ, μ, ι, sr, hr, ?_⟩
    rw [e1]
    intro vo ι1 H1 g1 hr1 r1
    obtain ⟨iv, μ2, e3, e4⟩ := bind_ok e2
    refine ⟨ρ, μ1, ι1, sr.grow g1, hr1, ?_⟩
    rw [e3]
    intro vi ι2 H2 g2 hr2 r2
    cases ov with
    | ref l => cases iv with
      | int k =>
        simp only at e4
        cases q : getM μ2 l with
        | none => rw [q] at e4; cases e4
        | some xs =>
          rw [q] at e4
          simp only at e4
          cases q2 : ixN xs.length k with
          | none => rw [q2] at e4; cases e4
          | some j =>
            rw [q2] at e4
            cases e4
            obtain ⟨p, vs, i1, i2, i3⟩ := getM_at hr2 q
            obtain rfl := ref_eq (r1.grow g2) i1
            have rx := (r.grow g1).grow g2
            exact ⟨p, vs, k, j, rfl, r2, i2, by rw [i3.length]; exact q2, h σ ι2 _ ((g1.trans g2).trans (grow_write i1 i2)) (hr2.write (getM_of q) i1 i2 (i3.set rx j)) (((sr.grow g1).grow g2).grow (grow_write i1 i2))⟩
      | _ => cases e4
    | _ => cases e4
theorem s_asg {tg : Expr} {g : DG} (he : PE X e (LE X.K W da)) (hg : PG X tg (LG X.K W g)) (hs : swapsWithSole [tg] e pos.line X.env = pure false := by rfl) (hw : swappedStores [tg] e X.env = pure none := by rfl)
    (h1 : (assignEach [tg] X.env).map (·.2) = [assign tg X.env] := by rfl) : PS X (.Assign [tg] e pos) (LS X.K W (dAsg da g)) := by
  refine (ps_asg he hg hs hw h1).mono fun D σ H ⟨ρ, μ, ι, sr, hr, h⟩ => ?_
  refine ⟨ρ, μ, ι, sr, hr, Post.mono (Post.thn sr h) ?_⟩
  rintro v H1 ⟨x, μ1, ι1, g1, hr1, r1, sr1, h1⟩
  cases q : g x ρ μ1 with
  | ok ρ' μ' => rw [q] at h1; exact ⟨ρ, μ1, ι1, x, sr1, hr1, r1, ρ', μ', q, h1⟩
  | exc e μ => rw [q] at h1; exact h1.elim
  | bad => rw [q] at h1; exact h1.elim
theorem s_set {i : Nat} {x : Str} {pos' : Pos} (hN : X.N.Nodup) (he : PE X e (LE X.K W da)) (hi : X.N[i]? = some x := by rfl) (hx : Loc X.env.scope x := by first | exact Or.inl rfl | exact Or.inr rfl) (hs : swapsWith e (some (.Name x pos')) pos.line X.env = pure false := by rfl) (hf : X.fn x = true ∨ X.env.scope.names.lookup x = some .local := by first | exact .inl rfl | exact .inr rfl | assumption) :
    PS X (.Assign [.Name x pos'] e pos) (LS X.K W (dAsg da (gN i))) := by
  refine (ps_set hN hi hx he hs hf).mono fun D σ H ⟨ρ, μ, ι, sr, hr, h⟩ => ?_
  refine ⟨ρ, μ, ι, sr, hr, Post.mono (Post.thn sr h) ?_⟩
  rintro v H1 ⟨x, μ1, ι1, g1, hr1, r1, sr1, h1⟩
  exact h1 _ ι1 H1 .refl hr1 (sr1.set r1 i)
theorem s_par {i j : Nat} {x y : Str} {px py pt : Pos} {kt k2 pt2} (hc : X.calm = true) (hN : X.N.Nodup) (ha : PA X [a, b] (LA X.K W dl)) (hi : X.N[i]? = some x := by rfl) (hj : X.N[j]? = some y := by rfl) (hij : i ≠ j := by decide)
    (hx : X.env.scope.names.lookup x = some .local := by rfl) (hy : X.env.scope.names.lookup y = some .local := by rfl)
    (hw : swappedStores [.Tuple [.Name x px, .Name y py] kt pt] (.Tuple [a, b] k2 pt2) X.env = pure (some [x, y]) := by rfl)
    (hs : swapsWithSole [.Tuple [.Name x px, .Name y py] kt pt] (.Tuple [a, b] k2 pt2) pos.line X.env = pure false := by rfl) :
    PS X (.Assign [.Tuple [.Name x px, .Name y py] kt pt] (.Tuple [a, b] k2 pt2) pos) (LS X.K W (dPar i j dl)) := by
  refine (ps_par hc hN hi hj hij hx hy ha hw hs).mono fun D σ H ⟨ρ, μ, ι, sr, hr, h⟩ => ?_
  refine ⟨ρ, μ, ι, sr, hr, Post.mono (Post.thn sr h) ?_⟩
  rintro v H1 ⟨vs, μ1, ι1, g1, hr1, r1, sr1, h1⟩
  cases vs with
  | nil => exact h1.elim
  | cons v1 r => cases r with
    | nil => exact h1.elim
    | cons v2 r => cases r with
      | nil =>
        obtain ⟨u1, u2, rfl, q1, q2⟩ := two_rep r1
        exact ⟨u1, u2, rfl, h1 _ ι1 H1 .refl hr1 ((sr1.set q1 i).set q2 j)⟩
      | cons _ _ => exact h1.elim
/-- a, b, c = x, y, z with plain local names -/
def tPar3 (i j k : Nat) (ta : TA) : TS := fun D σ H => ta σ H fun vs H1 => ∃ v w z, vs = [v, w, z] ∧ D.nx (((σ.set i (some v)).set j (some w)).set k (some z)) H1
theorem ps_par3 {i j k : Nat} {x y z : Str} {a b c : Expr} {ta : TA} {px py pz pt : Pos} {kt k2 pt2} (hc : X.calm = true) (hN : X.N.Nodup) (hi : X.N[i]? = some x) (hj : X.N[j]? = some y) (hk : X.N[k]? = some z) (hij : i ≠ j) (hik : i ≠ k) (hjk : j ≠ k)
    (hx : X.env.scope.names.lookup x = some .local) (hy : X.env.scope.names.lookup y = some .local) (hz : X.env.scope.names.lookup z = some .local) (ha : PA X [a, b, c] ta)
    (hw : swappedStores [.Tuple [.Name x px, .Name y py, .Name z pz] kt pt] (.Tuple [a, b, c] k2 pt2) X.env = pure (some [x, y, z]))
    (hs : swapsWithSole [.Tuple [.Name x px, .Name y py, .Name z pz] kt pt] (.Tuple [a, b, c] k2 pt2) pos.line X.env = pure false := by rfl) :
    PS X (.Assign [.Tuple [.Name x px, .Name y py, .Name z pz] kt pt] (.Tuple [a, b, c] k2 pt2) pos) (tPar3 i j k ta) := by
  refine ⟨fun pins s σ H D I h => ?_⟩
  rw [exec_Assign_arm]
  refine wpAny_bind (wpAny_standAt ?_)
  rw [hs]
  refine wpAny_bind (wpAny_pure ?_)
  rw [if_neg (by decide)]
  refine wpAny_bind (Tuple_ (thn (ha.run _ pins s σ H _ I h) fun us s1 ⟨vs, H1, I1, r1, q1⟩ => ?_))
  obtain ⟨v, w, zz, e1, q1⟩ := q1
  subst e1
  obtain ⟨u1, u2, u3, rfl, rv, rw', rz⟩ : ∃ u1 u2 u3, us = [u1, u2, u3] ∧ RelV v u1 ∧ RelV w u2 ∧ RelV zz u3 := by
    cases r1 with
    | cons p q =>
      cases q with
      | cons p' q' =>
        cases q' with
        | cons p2 q2 =>
          cases q2
          exact ⟨_, _, _, rfl, p, p', p2⟩
  refine wpAny_newObj_type ?_ (by show 3 ≤ sizeLine; decide)
  have I2 : L2.Inv X pins σ H1 { s1 with heap := s1.heap.push { cls := .type "tuple", data := .seq [u1, u2, u3].toArray } } := I1.kept (t' := s1.toks) fun b o e => Heap.get?_push_of_some _ e
  rw [hw]
  refine wpAny_bind (wpAny_pure ?_)
  show wpAny (model X.prog X.w) X.A (do rule "assign.swapped-stores"; let items ← unpackItems (.ref s1.heap.objs.size) 3 none; assignInOrder [fun v => bindName X.env z v, fun v => bindName X.env y v, fun v => bindName X.env x v] items.reverse; pure Flow.next) _ _ _
  refine wpAny_bind (wpAny_rule (wpAny_bind (unpackItems_tuple (items := #[u1, u2, u3]) (I.ok.hd hc) (IsTup.new s1.heap _) fun h' hx' => ?_)))
  have I3 := I2.kept (h' := h') (t' := s1.toks) fun b o e => hx' b o (Nat.ne_of_lt (Heap.lt_size e)) e
  show wpAny _ _ (assignInOrder [fun v => bindName X.env z v, fun v => bindName X.env y v, fun v => bindName X.env x v] [u3, u2, u1] >>= fun _ => pure Flow.next) _ _ _
  refine wpAny_bind (assignInOrder_cons (wpAny_bindName (store_ok I3 hN hk (.inl hz) rz (fun s2 I4 => ?_) (.inr hz))))
  refine assignInOrder_cons (wpAny_bindName (store_ok I4 hN hj (.inl hy) rw' (fun s3 I5 => ?_) (.inr hy)))
  refine assignInOrder_cons (wpAny_bindName (store_ok I5 hN hi (.inl hx) rv (fun s4 I6 => assignInOrder_nil (wpAny_pure ?_)) (.inr hx)))
  rw [List.set_comm _ _ (Ne.symm hij), List.set_comm _ _ (Ne.symm hik), List.set_comm _ _ (Ne.symm hjk)] at I6
  exact ⟨_, H1, I6, q1⟩
theorem s_par3 {i j k : Nat} {x y z : Str} {c : Expr} {px py pz pt : Pos} {kt k2 pt2} (hc : X.calm = true) (hN : X.N.Nodup) (ha : PA X [a, b, c] (LA X.K W dl)) (hi : X.N[i]? = some x := by rfl) (hj : X.N[j]? = some y := by rfl) (hk : X.N[k]? = some z := by rfl) (hij : i ≠ j := by decide) (hik : i ≠ k := by decide) (hjk : j ≠ k := by decide)
    (hx : X.env.scope.names.lookup x = some .local := by rfl) (hy : X.env.scope.names.lookup y = some .local := by rfl) (hz : X.env.scope.names.lookup z = some .local := by rfl)
    (hw : swappedStores [.Tuple [.Name x px, .Name y py, .Name z pz] kt pt] (.Tuple [a, b, c] k2 pt2) X.env = pure (some [x, y, z]) := by rfl)
    (hs : swapsWithSole [.Tuple [.Name x px, .Name y py, .Name z pz] kt pt] (.Tuple [a, b, c] k2 pt2) pos.line X.env = pure false := by rfl) :
    PS X (.Assign [.Tuple [.Name x px, .Name y py, .Name z pz] kt pt] (.Tuple [a, b, c] k2 pt2) pos) (LS X.K W (dPar3 i j k dl)) := by
  refine (ps_par3 hc hN hi hj hk hij hik hjk hx hy hz ha hw hs).mono fun D σ H ⟨ρ, μ, ι, sr, hr, h⟩ => ?_
  refine ⟨ρ, μ, ι, sr, hr, Post.mono (Post.thn sr h) ?_⟩
  rintro v H1 ⟨vs, μ1, ι1, g1, hr1, r1, sr1, h1⟩
  cases vs with
  | nil => exact h1.elim
  | cons v1 r => cases r with
    | nil => exact h1.elim
    | cons v2 r => cases r with
      | nil => exact h1.elim
      | cons v3 r => cases r with
        | nil =>
          obtain ⟨u1, t, rfl, q1, rt⟩ := r1
          obtain ⟨u2, u3, rfl, q2, q3⟩ := two_rep rt
          exact ⟨u1, u2, u3, rfl, h1 _ ι1 H1 .refl hr1 (((sr1.set q1 i).set q2 j).set q3 k)⟩
        | cons _ _ => exact h1.elim
theorem aug_ok {K : PySem.W.Frag} {f : Int → Int → Int} {i : Nat} {D : Ends} {σ : L2.St} {H : Hp} (h : LS K W (dAugI f i da) D σ H) : tAug i (LE K W da) (ipI f) D σ H := by
  obtain ⟨ρ, μ, ι, sr, hr, h⟩ := h
  unfold dAugI at h
  split at h
  · rename_i x e
    obtain ⟨v, e1, e2⟩ := sr.get e
    cases e2
    refine ⟨_, e1, ρ, μ, ι, sr, hr, Post.mono (Post.thn sr h) ?_⟩
    rintro v H1 ⟨y, μ1, ι1, g1, hr1, r1, sr1, h1⟩
    cases y with
    | int y => cases r1; exact ⟨x, y, rfl, rfl, h1 _ ι1 H1 .refl hr1 (sr1.set (show Rep K ι1 H1 (.int (f x y)) (.int (f x y)) from rfl) i)⟩
    | _ => exact h1.elim
  · exact h.elim
theorem s_augA {i : Nat} {x : Str} {pos' : Pos} (hN : X.N.Nodup) (he : PE X e (LE X.K W da)) (hi : X.N[i]? = some x := by rfl) (hx : Loc X.env.scope x := by first | exact Or.inl rfl | exact Or.inr rfl) (hf : X.fn x = true ∨ X.env.scope.names.lookup x = some .local := by first | exact .inl rfl | exact .inr rfl | assumption) :
    PS X (.AugAssign (.Name x pos') .Add e pos) (LS X.K W (dAugI (· + ·) i da)) := (ps_aug hN hi hx he ip_add hf).mono fun D σ H h => aug_ok h
/-- while -/
theorem s_while {c : Expr} {body : List Stmt} (hp : PassesOwn (model X.prog X.w) X.A X.env X.xe) (hc : PT X c (LT X.K W ba)) (hb : PSs X body (LS X.K W d1)) : PS X (.While c body [] pos) (LS X.K W (dWhile ba d1)) := by
  refine (ps_while hp hc hb).mono fun D σ H ⟨ρ, μ, ι, sr, hr, h⟩ => ?_
  refine ⟨fun m σ H => ∃ ρ μ ι, SR X.K ι H ρ σ ∧ HR X.K ι μ H ∧ PostS X.K W ι H (dWhileN ba d1 m ρ μ) D, ⟨lid, ρ, μ, ι, sr, hr, h⟩, ?_⟩
  rintro m σ H ⟨ρ, μ, ι, sr, hr, h⟩
  cases m with
  | zero => exact h.elim
  | succ m =>
    refine ⟨ρ, μ, ι, sr, hr, Post.mono (Post.thn sr h) ?_⟩
    rintro v H1 ⟨x, μ1, ι1, g1, hr1, rfl, sr1, h1⟩
    cases x with
    | false => rw [if_neg Bool.false_ne_true] at h1 ⊢; exact h1 σ ι1 H1 .refl hr1 sr1
    | true =>
      rw [if_pos rfl] at h1 ⊢
      refine ⟨fun σ' H' => ∃ ρ μ ι, SR X.K ι H' ρ σ' ∧ HR X.K ι μ H' ∧ PostS X.K W ι H' (dWhileN ba d1 m ρ μ) D, fun σ' H' q => ⟨m, Nat.lt_succ_self m, q⟩, ρ, μ1, ι1, sr1, hr1, ?_⟩
      cases q : d1 ρ μ1 with
      | nx ρ' μ' => rw [q] at h1; exact fun σ' ι' H' g hr sr => ⟨ρ', μ', ι', sr, hr, PostS.rebase h1 g⟩
      | ct ρ' μ' => rw [q] at h1; exact fun σ' ι' H' g hr sr => ⟨ρ', μ', ι', sr, hr, PostS.rebase h1 g⟩
      | bk ρ' μ' => rw [q] at h1; exact h1
      | rt v μ' => rw [q] at h1; exact h1
      | exc e ρ' μ' => rw [q] at h1; exact h1
      | bad => rw [q] at h1; exact h1
end
end GB
set_option Elab.async false
set_option linter.all false
set_option maxRecDepth 100000
set_option maxHeartbeats 2000000
namespace GB
open PySem PySem.Spec PyProof.Rows L2
/-! ### what is walked -/
abbrev DI := Mu → Nat → Option (Option PV)
structure ItL (K : PySem.W.Frag) (ι0 : Io) (H0 : Hp) (j : DI) (J : It) : Prop where
  step : ∀ (i : Nat) (ι : Io) (μ : Mu) (H : Hp), Grow K ι0 H0 ι H → HR K ι μ H → match j μ i with
    | none => True
    | some none => J.stop i H
    | some (some x) => J.go i H ∧ ∀ v H', J.yld i H v H' → Grow K ι H ι H' ∧ HR K ι μ H' ∧ Rep K ι H' x v
abbrev LI (K : PySem.W.Frag) (W : WS) (d : Rho → Mu → R DI) : TI := lift K W (fun ι H j J => ItL K ι H j J) d
def jTup (xs : List PV) : DI := fun _ i => some (xs[i]?)
def jLst (l : Nat) : DI := fun μ i => (getL μ l).map fun xs => xs[i]?
def jRng (lo : Int) (n : Nat) : DI := fun _ i => some (if i < n then some (.int (lo + i)) else none)
def jEnum (j : DI) : DI := fun μ i => (j μ i).map fun o => o.map fun x => .tup [.int i, x]
def jZip (j k : DI) : DI := fun μ i => match j μ i, k μ i with
  | some (some x), some (some y) => some (some (.tup [x, y]))
  | some _, some _ => some none
  | _, _ => none
/-- a list or a tuple -/
def jSeq (x : PV) (μ : Mu) : R DI := match x with
  | .tup xs => .ok (jTup xs) μ
  | .lst xs => .ok (jTup xs) μ
  | .ref l => match getL μ l with
    | some _ => .ok (jLst l) μ
    | none => .bad
  | _ => .bad
/-- a list, written or not -/
def jL (x : PV) (μ : Mu) : Option DI := match x with
  | .lst xs => some (jTup xs)
  | .ref l => (getL μ l).map fun _ => jLst l
  | _ => none
def diSeq (a : Dn PV) : Rho → Mu → R DI := fun ρ μ => (a ρ μ).bind fun x μ => jSeq x μ
def diRng1 (a : Dn (List PV)) : Rho → Mu → R DI := fun ρ μ => (a ρ μ).bind fun xs μ => match xs with
  | [.int j] => if decide (-4611686018427387904 ≤ j) && decide (j < 4611686018427387904) then .ok (jRng 0 j.toNat) μ else .bad
  | _ => .bad
def diRng2 (a : Dn (List PV)) : Rho → Mu → R DI := fun ρ μ => (a ρ μ).bind fun xs μ => match xs with
  | [.int i, .int j] => if decide (-4611686018427387904 ≤ i) && decide (i < 4611686018427387904) && decide (-4611686018427387904 ≤ j) && decide (j < 4611686018427387904) then .ok (jRng i (j - i).toNat) μ else .bad
  | _ => .bad
def diEnum (a : Dn (List PV)) : Rho → Mu → R DI := fun ρ μ => (a ρ μ).bind fun xs μ => match xs with
  | [x] => (jSeq x μ).bind fun j μ => .ok (jEnum j) μ
  | _ => .bad
def diZip (a : Dn (List PV)) : Rho → Mu → R DI := fun ρ μ => (a ρ μ).bind fun xs μ => match xs with
  | [.tup x, .tup y] => .ok (jZip (jTup x) (jTup y)) μ
  | [x, y] => match jL x μ, jL y μ with
    | some j, some k => .ok (jZip j k) μ
    | _, _ => .bad
  | _ => .bad
section
variable {K : PySem.W.Frag} {ι : Io} {μ : Mu} {H : Hp}
/-- j reads the list at a -/
def SrcL (K : PySem.W.Frag) (ι : Io) (H : Hp) (j : DI) (a : Addr) : Prop := ∀ ι1 μ1 H1, Grow K ι H ι1 H1 → HR K ι1 μ1 H1 → ∀ i, j μ1 i = none ∨ ∃ xs vs, j μ1 i = some (xs[i]?) ∧ SqL K H1 a vs ∧ RepL K ι1 H1 xs vs
theorem src_ref {l : Nat} {a : Addr} (hi : ι.l[l]? = some a) : SrcL K ι H (jLst l) a := fun ι1 μ1 H1 g hr i => by
  unfold jLst
  cases q : getL μ1 l with
  | none => exact .inl rfl
  | some xs =>
    obtain ⟨a1, vs, h1, h2, h3, _⟩ := getL_sq hr q
    have e := pre_get g.pre hi
    rw [h1] at e
    cases e
    exact .inr ⟨xs, vs, rfl, h2, h3⟩
theorem src_lst {xs : List PV} {a : Addr} {vs : List V} (h : InL ι H a vs) (r : RepL K ι H xs vs) : SrcL K ι H (jTup xs) a := fun ι1 μ1 H1 g hr i => .inr ⟨xs, vs, rfl, .of (h.grow g).1, r.grow g⟩
theorem src_jL {x : PV} {v : V} {j : DI} (h : HR K ι μ H) (r : Rep K ι H x v) (e : jL x μ = some j) : ∃ a vs, v = .ref a ∧ SqL K H a vs ∧ SrcL K ι H j a := by
  unfold jL at e
  split at e
  · cases e
    obtain ⟨a, vs, h1, h2, h3⟩ := r
    exact ⟨a, vs, h1, .of h2.1, src_lst h2 h3⟩
  · rename_i l
    cases q : getL μ l with
    | none => rw [q] at e; cases e
    | some xs =>
      rw [q] at e
      cases e
      obtain ⟨a, vs, h1, h2, h3, _⟩ := getL_sq h q
      obtain rfl := ref_eq r h1
      exact ⟨a, vs, rfl, h2, src_ref h1⟩
  · cases e
theorem itl_src {j : DI} {a : Addr} (s : SrcL K ι H j a) : ItL K ι H j (Itl K a) := ⟨fun i ι1 μ1 H1 g hr => by
  rcases s ι1 μ1 H1 g hr i with e | ⟨xs, vs, e, h2, h3⟩
  · rw [e]; trivial
  · rw [e]
    cases q2 : xs[i]? with
    | none =>
      refine ⟨vs, h2, ?_⟩
      rw [h3.length]
      exact List.getElem?_eq_none_iff.mp q2
    | some x =>
      obtain ⟨u, e1, e2⟩ := h3.get q2
      refine ⟨⟨vs, u, h2, e1⟩, fun v H' ⟨e3, e4⟩ => ?_⟩
      subst e3
      have e5 := e4 vs h2
      rw [e1] at e5
      cases e5
      exact ⟨.refl, hr, e2⟩⟩
theorem itl_list {l : Nat} {a : Addr} (hi : ι.l[l]? = some a) : ItL K ι H (jLst l) (Itl K a) := ⟨fun i ι1 μ1 H1 g hr => by
  unfold jLst
  cases q : getL μ1 l with
  | none => exact trivial
  | some xs =>
    obtain ⟨a1, vs, h1, h2, h3, _⟩ := getL_sq hr q
    have e := pre_get g.pre hi
    rw [h1] at e
    cases e
    simp only [Option.map_some]
    cases q2 : xs[i]? with
    | none =>
      refine ⟨vs, h2, ?_⟩
      rw [h3.length]
      exact List.getElem?_eq_none_iff.mp q2
    | some x =>
      obtain ⟨u, e1, e2⟩ := h3.get q2
      refine ⟨⟨vs, u, h2, e1⟩, fun v H' ⟨e3, e4⟩ => ?_⟩
      subst e3
      have e5 := e4 vs h2
      rw [e1] at e5
      cases e5
      exact ⟨.refl, hr, e2⟩⟩
theorem itl_tup {xs : List PV} {vs : List V} {a : Addr} (s : SqT K H a vs) (r : RepL K ι H xs vs) : ItL K ι H (jTup xs) (Itt K a) := ⟨fun i ι1 μ1 H1 g hr => by
  unfold jTup
  have s1 := g.tup a vs s
  have r1 := r.grow g
  cases q2 : xs[i]? with
  | none =>
    refine ⟨vs, s1, ?_⟩
    rw [r1.length]
    exact List.getElem?_eq_none_iff.mp q2
  | some x =>
    obtain ⟨u, e1, e2⟩ := r1.get q2
    refine ⟨⟨vs, u, s1, e1⟩, fun v H' ⟨e3, e4⟩ => ?_⟩
    subst e3
    have e5 := e4 vs s1
    rw [e1] at e5
    cases e5
    exact ⟨.refl, hr, e2⟩⟩
theorem itl_rng {lo : Int} {n : Nat} : ItL K ι H (jRng lo n) (Itr lo n) := ⟨fun i ι1 μ1 H1 g hr => by
  unfold jRng
  by_cases h : i < n
  · rw [if_pos h]
    exact ⟨h, fun v H' ⟨e3, e4⟩ => by subst e3; exact ⟨.refl, hr, e4⟩⟩
  · rw [if_neg h]
    exact Nat.le_of_not_lt h⟩
end
section
variable {X : Cx} {W : WS} {tg : Expr} {l : Expr} {da : Dn PV} {dl : Dn (List PV)} {p pos tpos : Pos}
/-- a list or a tuple -/
def iSeq (K : PySem.W.Frag) (tl : TE) : TI := fun σ H R => tl σ H fun x H1 => (∃ a, x = .ref a ∧ (∃ xs, SqL K H1 a xs) ∧ R (Itl K a) H1) ∨ (∃ a, x = .ref a ∧ (∃ xs, SqT K H1 a xs) ∧ R (Itt K a) H1)
theorem pi_seq {tl : TE} (hl : PE X l tl) : PI X tg l (iSeq X.K tl) := by
  refine ⟨fun pins s σ H R I h => ?_⟩
  refine thn (hl.run pins s σ H _ I h) fun v s1 ⟨x, H1, I1, r1, q1⟩ => ?_
  rcases q1 with ⟨a, e, ⟨xs, hq⟩, q⟩ | ⟨a, e, ⟨xs, hq⟩, q⟩
  · subst e
    cases r1
    obtain ⟨its, rv, p, hz⟩ := I1.list hq
    refine wpAny_pyIter_list p.isList ?_
    refine ⟨s1.heap.objs.size, [s1.heap.objs.size], _, _, H1, rfl, I1.kept (t' := s1.toks) fun b o e => Heap.get?_push_of_some _ e, turn_list a _, ⟨_, Heap.get?_push_size _ rfl, rfl, rfl⟩, fun b hb => ?_, q⟩
    have e : b = s1.heap.objs.size := by simpa using hb
    subst e
    exact I1.fpOk (Nat.le_refl _) (I1.hok.fresh (Nat.le_refl _))
  · subst e
    cases r1
    obtain ⟨its, rv, p, hz⟩ := I1.tuple hq
    refine wpAny_pyIter_tuple (show s1.heap.IsTuple a its.toArray from p) ?_
    refine ⟨s1.heap.objs.size, [s1.heap.objs.size], _, _, H1, rfl, I1.kept (t' := s1.toks) fun b o e => Heap.get?_push_of_some _ e, turn_tuple a _, ⟨_, Heap.get?_push_size _ rfl, rfl, rfl⟩, fun b hb => ?_, q⟩
    have e : b = s1.heap.objs.size := by simpa using hb
    subst e
    exact I1.fpOk (Nat.le_refl _) (I1.hok.fresh (Nat.le_refl _))
theorem pi_mono {wi wi' : TI} {it : Expr} (h : PI X tg it wi) (m : ∀ σ H Q, wi' σ H Q → wi σ H Q) : PI X tg it wi' := ⟨fun pins s σ H R I q => h.run pins s σ H R I (m _ _ _ q)⟩
theorem i_seq (hl : PE X l (LE X.K W da)) : PI X tg l (LI X.K W (diSeq da)) := pi_mono (pi_seq hl) fun σ H R ⟨ρ, μ, ι, sr, hr, h⟩ => by
  refine ⟨ρ, μ, ι, sr, hr, Post.mono (Post.bind h) ?_⟩
  rintro v H1 ⟨x, μ1, ι1, g1, hr1, r1, h1⟩
  unfold jSeq at h1
  cases x with
  | tup xs =>
    obtain ⟨a, vs, rfl, s, r⟩ := r1
    exact .inr ⟨a, rfl, ⟨vs, s⟩, h1.ok hr1 (itl_tup s r)⟩
  | lst xs =>
    obtain ⟨a, vs, rfl, s, r⟩ := r1
    exact .inl ⟨a, rfl, ⟨vs, .of s.1⟩, h1.ok hr1 (itl_src (src_lst s r))⟩
  | ref l =>
    simp only at h1
    cases q : getL μ1 l with
    | none => rw [q] at h1; exact h1.elim
    | some xs =>
      rw [q] at h1
      obtain ⟨a, vs, i1, i2, i3, _⟩ := getL_sq hr1 q
      obtain rfl := ref_eq r1 i1
      exact .inl ⟨a, rfl, ⟨vs, i2⟩, h1.ok hr1 (itl_list i1)⟩
  | _ => exact h1.elim
theorem i_rng1 {a : Expr} (hm : X.mg "range" = none) (ha : PA X [a] (LA X.K W dl)) (hg : Gl X "range" := by rfl) (hs : starEach [a] X.env = [(false, eval a X.env)] := by rfl) : PI X tg (.Call (.Name "range" p) [a] [] pos) (LI X.K W (diRng1 dl)) := pi_mono (pi_range1 hg hm ha hs) fun σ H R ⟨ρ, μ, ι, sr, hr, h⟩ => by
  refine ⟨ρ, μ, ι, sr, hr, Post.mono (Post.bind h) ?_⟩
  rintro v H1 ⟨x, μ1, ι1, g1, hr1, r1, h1⟩
  split at h1
  · obtain ⟨u, rfl, r2⟩ := one_rep r1
    cases r2
    split at h1
    · rename_i c
      rw [Bool.and_eq_true] at c
      have c1 := of_decide_eq_true c.1
      have c2 := of_decide_eq_true c.2
      exact ⟨_, rfl, by omega, by omega, h1.ok hr1 itl_rng⟩
    · exact h1.elim
  · exact h1.elim
theorem i_rng2 {a b : Expr} (hm : X.mg "range" = none) (ha : PA X [a, b] (LA X.K W dl)) (hg : Gl X "range" := by rfl) (hs : starEach [a, b] X.env = [(false, eval a X.env), (false, eval b X.env)] := by rfl) (hs2 : starEach [b] X.env = [(false, eval b X.env)] := by rfl) : PI X tg (.Call (.Name "range" p) [a, b] [] pos) (LI X.K W (diRng2 dl)) := pi_mono (pi_range2 hg hm ha hs hs2) fun σ H R ⟨ρ, μ, ι, sr, hr, h⟩ => by
  refine ⟨ρ, μ, ι, sr, hr, Post.mono (Post.bind h) ?_⟩
  rintro v H1 ⟨x, μ1, ι1, g1, hr1, r1, h1⟩
  split at h1
  · obtain ⟨u, u2, rfl, r2, r3⟩ := two_rep r1
    cases r2; cases r3
    split at h1
    · rename_i c
      simp only [Bool.and_eq_true] at c
      have c1 := of_decide_eq_true c.1.1.1
      have c2 := of_decide_eq_true c.1.1.2
      have c3 := of_decide_eq_true c.1.2
      have c4 := of_decide_eq_true c.2
      exact ⟨_, _, rfl, ⟨by omega, by omega, by omega, by omega⟩, h1.ok hr1 itl_rng⟩
    · exact h1.elim
  · exact h1.elim
theorem itl_zip {K : PySem.W.Frag} {ι : Io} {H : Hp} {j k : DI} {a b : Addr} (s : SrcL K ι H j a) (s' : SrcL K ι H k b) : ItL K ι H (jZip j k) (Itz K a b) := ⟨fun i ι1 μ1 H1 g hr => by
  unfold jZip
  rcases s ι1 μ1 H1 g hr i with e | ⟨xs, vs, e, h2, h3⟩
  · rw [e]; trivial
  rcases s' ι1 μ1 H1 g hr i with e' | ⟨ys, us, e', k2, k3⟩
  · rw [e, e']
    cases xs[i]? <;> trivial
  rw [e, e']
  cases q2 : xs[i]? with
  | none =>
    simp only
    exact ⟨vs, us, h2, k2, .inl (by rw [h3.length]; exact List.getElem?_eq_none_iff.mp q2)⟩
  | some x => cases q3 : ys[i]? with
    | none =>
      simp only
      exact ⟨vs, us, h2, k2, .inr (by rw [k3.length]; exact List.getElem?_eq_none_iff.mp q3)⟩
    | some y =>
      simp only
      obtain ⟨u, e1, e2⟩ := h3.get q2
      obtain ⟨u', e1', e2'⟩ := k3.get q3
      refine ⟨⟨vs, us, u, u', h2, k2, e1, e1'⟩, fun v H' ⟨T, x', y', e3, e4, e5, e6, e7⟩ => ?_⟩
      subst e3 e5
      have z1 := e6 vs h2
      have z2 := e7 us k2
      rw [e1] at z1
      rw [e1'] at z2
      cases z1; cases z2
      exact ⟨grow_new e4, hr.new e4, T, _, rfl, .of upd_same, .cons_ (e2.grow (grow_new e4)) (.cons_ (e2'.grow (grow_new e4)) .nil_)⟩⟩
theorem itl_zipT {K : PySem.W.Frag} {ι : Io} {H : Hp} {xs ys : List PV} {vs us : List V} {a b : Addr} (s : SqT K H a vs) (r : RepL K ι H xs vs) (s' : SqT K H b us) (r' : RepL K ι H ys us) : ItL K ι H (jZip (jTup xs) (jTup ys)) (RZ.ItzT K a b) := ⟨fun i ι1 μ1 H1 g hr => by
  unfold jZip jTup
  have h2 := g.tup a vs s
  have h3 := r.grow g
  have k2 := g.tup b us s'
  have k3 := r'.grow g
  cases q2 : xs[i]? with
  | none =>
    simp only
    exact ⟨vs, us, h2, k2, .inl (by rw [h3.length]; exact List.getElem?_eq_none_iff.mp q2)⟩
  | some x => cases q3 : ys[i]? with
    | none =>
      simp only
      exact ⟨vs, us, h2, k2, .inr (by rw [k3.length]; exact List.getElem?_eq_none_iff.mp q3)⟩
    | some y =>
      simp only
      obtain ⟨u, e1, e2⟩ := h3.get q2
      obtain ⟨u', e1', e2'⟩ := k3.get q3
      refine ⟨⟨vs, us, u, u', h2, k2, e1, e1'⟩, fun v H' ⟨T, x', y', e3, e4, e5, e6, e7⟩ => ?_⟩
      subst e3 e5
      have z1 := e6 vs h2
      have z2 := e7 us k2
      rw [e1] at z1
      rw [e1'] at z2
      cases z1; cases z2
      exact ⟨grow_new e4, hr.new e4, T, _, rfl, .of upd_same, .cons_ (e2.grow (grow_new e4)) (.cons_ (e2'.grow (grow_new e4)) .nil_)⟩⟩
theorem i_zip {e e2 : Expr} {elts : List Expr} {kk : Nat} (hm : X.mg "zip" = none) (ha : PA X [e, e2] (LA X.K W dl)) (hg : Gl X "zip" := by rfl)
    (hs : starEach [e, e2] X.env = (false, eval e X.env) :: starEach [e2] X.env := by rfl) (hpl : (backTo pos (starEach [e2] X.env)).any (·.1) = false := by rfl) :
    PI X (.Tuple elts kk tpos) (.Call (.Name "zip" p) [e, e2] [] pos) (LI X.K W (diZip dl)) := pi_mono (RZ.pi_zipA hg hm ha hs hpl) fun σ H R ⟨ρ, μ, ι, sr, hr, h⟩ => by
  refine ⟨ρ, μ, ι, sr, hr, Post.mono (Post.bind h) ?_⟩
  rintro v H1 ⟨x, μ1, ι1, g1, hr1, r1, h1⟩
  split at h1
  · obtain ⟨u, u2, rfl, r2, r3⟩ := two_rep r1
    obtain ⟨a, vs, rfl, s, r⟩ := r2
    obtain ⟨b, us, rfl, s', r'⟩ := r3
    exact ⟨a, b, vs, us, rfl, .inr ⟨s, s', h1.ok hr1 (itl_zipT s r s' r')⟩⟩
  · obtain ⟨u, u2, rfl, r2, r3⟩ := two_rep r1
    split at h1
    · rename_i q1 q2
      obtain ⟨a1, vs, rfl, i2, i3⟩ := src_jL hr1 r2 q1
      obtain ⟨b1, us, rfl, k2, k3⟩ := src_jL hr1 r3 q2
      exact ⟨a1, b1, vs, us, rfl, .inl ⟨i2, k2, h1.ok hr1 (itl_zip i3 k3)⟩⟩
    · exact h1.elim
  · exact h1.elim
end
/-! ### for -/
def dForN (j : DI) (g : DG) (b : DS) : Nat → Nat → DS
  | 0, _ => fun _ _ => .bad
  | n + 1, i => fun ρ μ => match j μ i with
    | none => .bad
    | some none => .nx ρ μ
    | some (some x) => match g x ρ μ with
      | .ok ρ μ => (match b ρ μ with
        | .nx ρ μ => dForN j g b n (i + 1) ρ μ
        | .ct ρ μ => dForN j g b n (i + 1) ρ μ
        | .bk ρ μ => .nx ρ μ
        | o => o)
      | _ => .bad
def dFor (d : Rho → Mu → R DI) (g : DG) (b : DS) : DS := fun ρ μ => (d ρ μ).thn ρ fun j μ => dForN j g b lid 0 ρ μ
section
variable {X : Cx} {W : WS} {tg iter : Expr} {body : List Stmt} {g : DG} {d1 : DS} {di : Rho → Mu → R DI} {pos : Pos}
theorem s_for (hp : PassesOwn (model X.prog X.w) X.A X.env X.xe) (hc : X.calm = true) (hi : PI X tg iter (LI X.K W di)) (hg : PG X tg (LG X.K W g)) (hb : PSs X body (LS X.K W d1))
    (hs : ∀ x, foldedSetIterable iter X.env x = pure x := by intro _; rfl) : PS X (.For tg iter body [] pos) (LS X.K W (dFor di g d1)) := by
  refine (ps_for hp hc hi hg hb hs).mono fun D σ H ⟨ρ, μ, ι, sr, hr, h⟩ => ?_
  refine ⟨ρ, μ, ι, sr, hr, Post.mono (Post.thn sr h) ?_⟩
  rintro J H1 ⟨j, μ1, ι1, g1, hr1, r1, sr1, h1⟩
  refine ⟨fun i m σ H => ∃ ρ μ ι, SR X.K ι H ρ σ ∧ HR X.K ι μ H ∧ Grow X.K ι1 H1 ι H ∧ PostS X.K W ι H (dForN j g d1 m i ρ μ) D, ⟨lid, ρ, μ1, ι1, sr1, hr1, .refl, h1⟩, ?_⟩
  rintro i m σ2 H2 ⟨ρ2, μ2, ι2, sr2, hr2, g2, h2⟩
  cases m with
  | zero => exact h2.elim
  | succ m =>
    unfold dForN at h2
    have st := r1.step i ι2 μ2 H2 g2 hr2
    cases q : j μ2 i with
    | none => rw [q] at h2; exact h2.elim
    | some o => cases o with
      | none =>
        rw [q] at h2 st
        exact .inl ⟨st, h2 σ2 ι2 H2 .refl hr2 sr2⟩
      | some x =>
        rw [q] at h2 st
        simp only at h2 st
        obtain ⟨go, yl⟩ := st
        refine .inr ⟨go, fun σ' H' => ∃ ρ μ ι, SR X.K ι H' ρ σ' ∧ HR X.K ι μ H' ∧ Grow X.K ι1 H1 ι H' ∧ PostS X.K W ι H' (dForN j g d1 m (i + 1) ρ μ) D, fun σ' H' q => ⟨m, Nat.lt_succ_self m, q⟩, fun v H3 hy => ?_⟩
        obtain ⟨g3, hr3, r3⟩ := yl v H3 hy
        cases q2 : g x ρ2 μ2 with
        | exc e μ => rw [q2] at h2; exact h2.elim
        | bad => rw [q2] at h2; exact h2.elim
        | ok ρ4 μ4 =>
          rw [q2] at h2
          simp only at h2
          refine ⟨ρ2, μ2, ι2, x, sr2.grow g3, hr3, r3, ρ4, μ4, q2, fun σ4 ι4 H4 g4 hr4 sr4 => ?_⟩
          have gg : Grow X.K ι1 H1 ι4 H4 := (g2.trans g3).trans g4
          have gg2 : Grow X.K ι2 H2 ι4 H4 := g3.trans g4
          refine ⟨ρ4, μ4, ι4, sr4, hr4, ?_⟩
          cases q5 : d1 ρ4 μ4 with
          | nx ρ' μ' => rw [q5] at h2; exact fun σ' ι' H' g hr sr => ⟨ρ', μ', ι', sr, hr, gg.trans g, PostS.rebase h2 (gg2.trans g)⟩
          | ct ρ' μ' => rw [q5] at h2; exact fun σ' ι' H' g hr sr => ⟨ρ', μ', ι', sr, hr, gg.trans g, PostS.rebase h2 (gg2.trans g)⟩
          | bk ρ' μ' => rw [q5] at h2; exact PostS.rebase (r := .nx ρ' μ') h2 gg2
          | rt v μ' => rw [q5] at h2; exact PostS.rebase (r := .rt v μ') (D := D) h2 gg2
          | exc e ρ' μ' => rw [q5] at h2; exact PostS.rebase (r := .exc e ρ' μ') (D := D) h2 gg2
          | bad => rw [q5] at h2; exact h2
end
/-! ### comprehensions -/
def W0 : WS := fun _ _ _ _ _ => False
def wipeP (ρ : Rho) : List Nat → Rho
  | [] => ρ
  | v :: vs => (wipeP ρ vs).set v none
def R.nex {α : Type} (r : R α) : R α := match r with
  | .ok a μ => .ok a μ
  | _ => .bad
@[simp] theorem R.nex_ok {α : Type} {a : α} {μ : Mu} : (R.ok a μ).nex = .ok a μ := ndf rfl
/-- the items that a comprehension makes -/
def dLcN (j : DI) (g : PV → Rho → Option Rho) (tt : Dn Bool) (te : Dn PV) (ρ : Rho) : Nat → Nat → Mu → R (List PV)
  | 0, _ => fun _ => .bad
  | n + 1, i => fun μ => match j μ i with
    | none => .bad
    | some none => .ok [] μ
    | some (some x) => match g x ρ with
      | none => .bad
      | some ρ2 => (tt ρ2 μ).nex.bind fun k μ => match k with
        | true => (te ρ2 μ).nex.bind fun y μ => if i < 16777216 then (dLcN j g tt te ρ n (i + 1) μ).bind fun ys μ => .ok (y :: ys) μ else .bad
        | false => dLcN j g tt te ρ n (i + 1) μ
def dLcA (d : Rho → Mu → R DI) (g : PV → Rho → Option Rho) (tt : Dn Bool) (te : Dn PV) (vs : List Nat) : Dn (List PV) := fun ρ μ => (d ρ μ).bind fun j μ => dLcN j g tt te (wipeP ρ vs) lid 0 μ
/-- the list is never written -/
def dLc (d : Rho → Mu → R DI) (g : PV → Rho → Option Rho) (tt : Dn Bool) (te : Dn PV) (vs : List Nat) : Dn PV := fun ρ μ => (dLcA d g tt te vs ρ μ).bind fun ys μ => .ok (.lst ys) μ
/-- the list will be written -/
def dLcT (d : Rho → Mu → R DI) (g : PV → Rho → Option Rho) (tt : Dn Bool) (te : Dn PV) (vs : List Nat) : Dn PV := fun ρ μ => (dLcA d g tt te vs ρ μ).bind fun ys (μ : Mu) => .ok (.ref (List.length μ)) (μ ++ [Ob.lst ys])
def dYes : Dn Bool := fun _ μ => .ok true μ
/-- a comprehension's target -/
def CTok (K : PySem.W.Frag) (g : TG) (dg : PV → Rho → Option Rho) (vs : List Nat) : Prop := ∀ (v : V) (σ : L2.St) (H : Hp) (Q : L2.St → Hp → Prop) (x : PV) (ρ ρ' : Rho) (ι : Io), SR K ι H ρ (wipe σ vs) → Rep K ι H x v → dg x ρ = some ρ' →
  (∀ σ2, SR K ι H ρ' σ2 → wipe σ2 vs = wipe σ vs → Q σ2 H) → g v (wipe σ vs) H Q
def gcN (i : Nat) (x : PV) (ρ : Rho) : Option Rho := some (ρ.set i (some x))
def gc2 (i j : Nat) (x : PV) (ρ : Rho) : Option Rho := match x with
  | .tup [a, b] => some ((ρ.set i (some a)).set j (some b))
  | _ => none
def gc3 (i j k : Nat) (x : PV) (ρ : Rho) : Option Rho := match x with
  | .tup [a, b, c] => some (((ρ.set i (some a)).set j (some b)).set k (some c))
  | _ => none
theorem wipe_get (σ : L2.St) (k : Nat) : ∀ vs : List Nat, (wipe σ vs)[k]? = if k ∈ vs then (if k < σ.length then some none else none) else σ[k]?
  | [] => by simp [wipe]
  | v :: vs => by
    unfold wipe
    by_cases h : v = k
    · subst h
      rw [List.getElem?_set_self', if_pos List.mem_cons_self]
      by_cases hl : v < σ.length
      · rw [if_pos hl, List.getElem?_eq_getElem (by rw [wipe_length]; exact hl)]; rfl
      · rw [if_neg hl, List.getElem?_eq_none (by rw [wipe_length]; omega)]; rfl
    · rw [List.getElem?_set_ne h, wipe_get σ k vs]
      have : (k ∈ v :: vs) ↔ k ∈ vs := by simp [Ne.symm h]
      by_cases hk : k ∈ vs
      · rw [if_pos hk, if_pos (this.mpr hk)]
      · rw [if_neg hk, if_neg (fun z => hk (this.mp z))]
theorem wipe_ext {σ τ : L2.St} {vs : List Nat} (hl : σ.length = τ.length) (h : ∀ k, k ∉ vs → σ[k]? = τ[k]?) : wipe σ vs = wipe τ vs := by
  apply List.ext_getElem?
  intro k
  rw [wipe_get, wipe_get, hl]
  by_cases hk : k ∈ vs
  · rw [if_pos hk, if_pos hk]
  · rw [if_neg hk, if_neg hk]; exact h k hk
theorem wipe_set {σ τ : L2.St} {vs : List Nat} {i : Nat} {o : Option V} (hi : i ∈ vs) (h : wipe σ vs = wipe τ vs) : wipe (σ.set i o) vs = wipe τ vs := by
  rw [← h]
  refine wipe_ext (by simp) fun k hk => ?_
  rw [List.getElem?_set_ne (show i ≠ k from fun z => hk (by rw [← z]; exact hi))]
theorem wipe_wipe (σ : L2.St) (vs : List Nat) : wipe (wipe σ vs) vs = wipe σ vs := wipe_ext (by rw [wipe_length]) fun k hk => by rw [wipe_get, if_neg hk]
theorem SR.wipe {K : PySem.W.Frag} {ι : Io} {H : Hp} {ρ : Rho} {σ : L2.St} (h : SR K ι H ρ σ) : ∀ vs : List Nat, SR K ι H (wipeP ρ vs) (wipe σ vs)
  | [] => h
  | v :: vs => (SR.wipe h vs).unset v none
theorem ct_name {K : PySem.W.Frag} {i : Nat} {vs : List Nat} (hi : i ∈ vs) : CTok K (gName i) (gcN i) vs := fun v σ H Q x ρ ρ' ι sr r e h => by
  cases e
  exact h _ (sr.set r i) (wipe_set hi (wipe_wipe σ vs))
theorem ct_two {K : PySem.W.Frag} {i j : Nat} {vs : List Nat} (hi : i ∈ vs) (hj : j ∈ vs) : CTok K (gTup K 2 (gCons (gName i) (gCons (gName j) gNil))) (gc2 i j) vs := fun v σ H Q x ρ ρ' ι sr r e h => by
  unfold gc2 at e
  split at e
  · cases e
    obtain ⟨a, us, rfl, s, r⟩ := r
    obtain ⟨u1, u2, rfl, r1, r2⟩ := two_rep r
    exact ⟨a, _, rfl, s, rfl, u1, _, rfl, u2, _, rfl, rfl, h _ ((sr.set r1 i).set r2 j) (wipe_set hj (wipe_set hi (wipe_wipe σ vs)))⟩
  · cases e
theorem ct_three {K : PySem.W.Frag} {i j k : Nat} {vs : List Nat} (hi : i ∈ vs) (hj : j ∈ vs) (hk : k ∈ vs) : CTok K (gTup K 3 (gCons (gName i) (gCons (gName j) (gCons (gName k) gNil)))) (gc3 i j k) vs := fun v σ H Q x ρ ρ' ι sr r e h => by
  unfold gc3 at e
  split at e
  · cases e
    obtain ⟨a, us, rfl, s, r⟩ := r
    obtain ⟨u1, t, rfl, r1, rt⟩ := r
    obtain ⟨u2, u3, rfl, r2, r3⟩ := two_rep rt
    exact ⟨a, _, rfl, s, rfl, u1, _, rfl, u2, _, rfl, u3, _, rfl, rfl, h _ (((sr.set r1 i).set r2 j).set r3 k) (wipe_set hk (wipe_set hj (wipe_set hi (wipe_wipe σ vs))))⟩
  · cases e
/-! a list under way -/
section
variable {K : PySem.W.Frag} {ι ι' : Io} {H H' : Hp} {D : Addr}
theorem SR.mapR (f : ∀ {x : PV} {v : V}, Rep K ι H x v → Rep K ι' H' x v) : ∀ {ρ : Rho} {σ : L2.St}, SR K ι H ρ σ → SR K ι' H' ρ σ
  | [], _, h => h
  | none :: _, _, ⟨v, r, e, _, h2⟩ => ⟨v, r, e, trivial, SR.mapR f h2⟩
  | some _ :: _, _, ⟨v, r, e, ⟨u, e2, h1⟩, h2⟩ => ⟨v, r, e, ⟨u, e2, f h1⟩, SR.mapR f h2⟩
theorem RepL.mapR (f : ∀ {x : PV} {v : V}, Rep K ι H x v → Rep K ι' H' x v) : ∀ {xs : List PV} {vs : List V}, RepL K ι H xs vs → RepL K ι' H' xs vs
  | [], _, h => h
  | _ :: _, _, ⟨v, r, e, h1, h2⟩ => ⟨v, r, e, f h1, RepL.mapR f h2⟩
theorem HR.mapR {μ : Mu} (h : HR K ι μ H) (hl : ι'.l = ι.l) (gb : ∀ a, a ∈ ι'.b → H' a ≠ none) (k : ∀ a u, a ∈ ι.l → H a = some u → H' a = some u) (f : ∀ {x : PV} {v : V}, Rep K ι H x v → Rep K ι' H' x v) : HR K ι' μ H' := by
  refine ⟨fun l k a e1 e2 => h.nd l k a (by rw [← hl]; exact e1) (by rw [← hl]; exact e2), by rw [hl]; exact h.len, gb, fun l o a e1 e2 => ?_⟩
  rw [hl] at e2
  have q := h.obj l o a e1 e2
  cases o with
  | lst xs =>
    obtain ⟨vs, e, r⟩ := q
    exact ⟨vs, k a _ (List.mem_of_getElem? e2) e, RepL.mapR f r⟩
theorem RoL.upd_ne {o : HO} {us : List V} (hD : H D = none ∨ H D = some (.lst us)) {a : Addr} {vs : List V} (h : RoL K H a vs) : RoL K (upd H D o) a vs := by
  rcases h with ⟨ob, h⟩ | h
  · refine .inl ⟨ob, ?_⟩
    rw [L2.upd_ne]
    · exact h
    · intro z
      subst z
      rcases hD with q | q <;> rw [h] at q <;> cases q
  · exact .inr h
theorem sqT_upd {o : HO} {us : List V} (hD : H D = none ∨ H D = some (.lst us)) {a : Addr} {vs : List V} (h : SqT K H a vs) : SqT K (upd H D o) a vs := by
  rcases hD with n | n
  · exact sqT_upd_new n h
  · exact sqT_upd_lst n h
/-- a list is begun that no value speaks of -/
theorem Rep.hide (hD : H D = none) {o : HO} {x : PV} {v : V} (h : Rep K ι H x v) : Rep K (ι.gho D) (upd H D o) x v :=
  h.mapH (ι := ι) (ι' := ι.gho D) (H' := upd H D o) (fun _ _ h => h) (fun a vs s => sqT_upd (us := []) (.inl hD) s) (fun a vs s => s.upd_ne (us := []) (.inl hD)) fun a vs s => by
    obtain ⟨s1, s2, s3⟩ := s
    have ne : a ≠ D := fun z => by rw [z, hD] at s1; cases s1
    exact ⟨by rw [L2.upd_ne ne]; exact s1, s2, fun z => (List.mem_cons.mp z).elim ne s3⟩
/-- .. it is written -/
theorem Rep.ghw {us : List V} (hD : H D = some (.lst us)) (hb : D ∈ ι.b) {o : HO} {x : PV} {v : V} (h : Rep K ι H x v) : Rep K ι (upd H D o) x v :=
  h.mapH (fun _ _ h => h) (fun a vs s => sqT_upd (.inr hD) s) (fun a vs s => s.upd_ne (.inr hD)) fun a vs ⟨s1, s2, s3⟩ => by
    have ne : a ≠ D := fun z => by rw [z] at s3; exact s3 hb
    exact ⟨by rw [L2.upd_ne ne]; exact s1, s2, s3⟩
/-- .. it is done -/
theorem Rep.done (hl : ι'.l = ι.l) (hb : ∀ a, a ∈ ι'.b → a ∈ ι.b) {x : PV} {v : V} (h : Rep K ι H x v) : Rep K ι' H x v :=
  h.mapH (fun i a e => by rw [hl]; exact e) (fun _ _ s => s) (fun _ _ s => s) fun a vs ⟨s1, s2, s3⟩ => ⟨s1, by rw [hl]; exact s2, fun z => s3 (hb a z)⟩
theorem Rep.doneT (hl : ι'.l = ι.l ++ [D]) (hD : D ∈ ι.b) (hb : ∀ a, a ∈ ι'.b → a ∈ ι.b) {x : PV} {v : V} (h : Rep K ι H x v) : Rep K ι' H x v :=
  h.mapH (fun i a e => by
    rw [hl, List.getElem?_append_left (List.getElem?_eq_some_iff.mp e).1]; exact e) (fun _ _ s => s) (fun _ _ s => s) fun a vs ⟨s1, s2, s3⟩ => ⟨s1, fun z => by
      rw [hl] at z
      rcases List.mem_append.mp z with z | z
      · exact s2 z
      · have e : a = D := by simpa using z
        rw [e] at s3; exact s3 hD, fun z => s3 (hb a z)⟩
end
section
variable {X : Cx} {W : WS} {elt tg iter : Expr} {ifs : List Expr} {scope : Scope} {own : List (Str × Nat)} {pos : Pos} {di : Rho → Mu → R DI} {g : TG} {dg : PV → Rho → Option Rho} {tt : Dn Bool} {te : Dn PV}
theorem ts_nil {X : Cx} : PTs X [] (LT X.K W0 dYes) := pts_nil.mono fun σ H Q ⟨ρ, μ, ι, sr, hr, h⟩ => h.ok hr rfl
theorem ts_one {X : Cx} {c : Expr} {d : Dn Bool} (h : PT X c (LT X.K W0 d)) : PTs X [c] (LT X.K W0 d) := pts_one h
theorem R.bind_bind {α β γ : Type} {r : R α} {f : α → Mu → R β} {g : β → Mu → R γ} : (r.bind f).bind g = r.bind fun a μ => (f a μ).bind g := by cases r <;> rfl
/-- a comprehension's list under way: the heap, what it holds so far -/
structure Mk (K : PySem.W.Frag) (ι1 : Io) (H1 : Hp) (D : Addr) (ι : Io) (μ : Mu) (H : Hp) (acc : List PV) (us : List V) : Prop where
  hb : D ∈ ι.b
  hl : D ∉ ι.l
  hD : H D = some (.lst us)
  ra : RepL K ι H acc us
  hr : HR K ι μ H
  gr : Grow K ι1 H1 ι H
theorem lift_lcA {K : PySem.W.Frag} {vs : List Nat} (ct : CTok K g dg vs) {σ : L2.St} {H : Hp} {Q : VK} {kf : List PV → Mu → R PV}
    (hk : ∀ (ι1 : Io) (H1 : Hp) (μ1 : Mu) (D : Addr) (ι : Io) (μ : Mu) (H : Hp) (acc : List PV) (us : List V), HR K ι1 μ1 H1 → H1 D = none → Mk K ι1 H1 D ι μ H acc us → Post K (W σ) (fun ι H => Rep K ι H) ι1 H1 (kf acc μ) Q → Q (.ref D) H)
    (h : LE K W (fun ρ μ => (dLcA di dg tt te vs ρ μ).bind kf) σ H Q) : tLc (LI K W di) g (LT K W0 tt) (LE K W0 te) vs σ H Q := by
  obtain ⟨ρ, μ, ι, sr, hr, h⟩ := h
  unfold dLcA at h
  have h' : Post K (W σ) (fun ι H => Rep K ι H) ι H (((di ρ μ).bind fun j μ => dLcN j dg tt te (wipeP ρ vs) lid 0 μ).bind kf) Q := h
  rw [R.bind_bind] at h'
  refine ⟨ρ, μ, ι, sr, hr, Post.mono (Post.bind h') ?_⟩
  rintro J H1 ⟨j, μ1, ι1, g1, hr1, r1, h1⟩ D hD
  have f0 : ∀ {x : PV} {v : V}, Rep K ι1 H1 x v → Rep K (ι1.gho D) (upd H1 D (.lst [])) x v := fun r => r.hide hD
  have g0 : Grow K ι1 H1 (ι1.gho D) (upd H1 D (.lst [])) := ⟨List.prefix_refl _, fun a ha => (List.mem_cons.mp ha).elim (fun z => .inr (by rw [z]; exact hD)) .inl, fun a ha => List.mem_cons_of_mem _ ha, fun a ha => upd_ne_none ha, fun a vs s => sqT_upd_new hD s, fun a o u e => by rw [upd_ne (ne_of_none e hD)]; exact e, fun a o _ e => by rw [upd_ne (ne_of_none e hD)]; exact e, fun _ h => .inl h⟩
  refine ⟨fun i m H => ∃ μ ι acc us, Mk K ι1 H1 D ι μ H acc us ∧ acc.length ≤ i ∧ SR K ι H (wipeP ρ vs) (wipe σ vs) ∧ Post K (W σ) (fun ι H => Rep K ι H) ι1 H1 ((dLcN j dg tt te (wipeP ρ vs) m i μ).bind fun ys μ => kf (acc ++ ys) μ) Q,
    ⟨lid, μ1, ι1.gho D, [], [], ⟨List.mem_cons_self, hr1.fresh hD, upd_same, .nil_, hr1.mapR rfl (fun a ha => ?_) (fun a u _ e => by rw [upd_ne (ne_of_none e hD)]; exact e) f0, g0⟩, Nat.le_refl _, SR.mapR f0 ((sr.grow g1).wipe vs), h1⟩, ?_⟩
  · rcases List.mem_cons.mp ha with z | z
    · rw [z, upd_same]; exact fun q => by cases q
    · exact upd_ne_none (hr1.gb a z)
  rintro i m H2 ⟨μ2, ι2, acc, us, ⟨hb2, hl2, hD2, ra2, hr2, gr2⟩, hi2, sr2, h2⟩
  cases m with
  | zero => exact h2.elim
  | succ m =>
    unfold dLcN at h2
    have st := r1.step i ι2 μ2 H2 gr2 hr2
    cases q : j μ2 i with
    | none => rw [q] at h2; exact h2.elim
    | some o => cases o with
      | none =>
        rw [q] at h2 st
        simp only [R.bind_ok, List.append_nil] at h2
        exact .inl ⟨st, hk ι1 H1 μ1 D ι2 μ2 H2 acc us hr1 hD ⟨hb2, hl2, hD2, ra2, hr2, gr2⟩ h2⟩
      | some x =>
        rw [q] at h2 st
        simp only at h2 st
        obtain ⟨go, yl⟩ := st
        refine .inr ⟨go, fun H => ∃ μ ι acc us, Mk K ι1 H1 D ι μ H acc us ∧ acc.length ≤ i + 1 ∧ SR K ι H (wipeP ρ vs) (wipe σ vs) ∧ Post K (W σ) (fun ι H => Rep K ι H) ι1 H1 ((dLcN j dg tt te (wipeP ρ vs) m (i + 1) μ).bind fun ys μ => kf (acc ++ ys) μ) Q, fun H' q => ⟨m, Nat.lt_succ_self m, q⟩, fun v H3 hy => ?_⟩
        obtain ⟨g3, hr3, r3⟩ := yl v H3 hy
        have sr3 := sr2.grow g3
        cases q2 : dg x (wipeP ρ vs) with
        | none => rw [q2] at h2; exact h2.elim
        | some ρ4 =>
          rw [q2] at h2
          simp only at h2
          refine ct v σ H3 _ x _ ρ4 ι2 sr3 r3 q2 fun σ4 sr4 hw => ⟨hw, ρ4, μ2, ι2, sr4, hr3, ?_⟩
          cases q5 : tt ρ4 μ2 with
          | bad => rw [q5] at h2; exact h2.elim
          | exc e μ => rw [q5] at h2; exact h2.elim
          | ok k μ5 =>
            rw [q5] at h2
            simp only [R.nex_ok, R.bind_ok] at h2
            intro k' ι5 H5 g5 hr5 ek
            subst ek
            have g25 := g3.trans g5
            have mk5 : Mk K ι1 H1 D ι5 μ5 H5 acc us := by
              refine ⟨g25.ghs _ hb2, fun z => ?_, g25.frm _ _ hl2 hD2, ra2.grow g25, hr5, gr2.trans g25⟩
              rcases g25.new D z with q | q
              · exact hl2 q
              · rw [hD2] at q; cases q
            cases k with
            | false =>
              rw [if_neg Bool.false_ne_true]
              exact ⟨μ5, ι5, acc, us, mk5, by omega, sr3.grow g5, h2⟩
            | true =>
              rw [if_pos rfl]
              simp only at h2
              refine ⟨ρ4, μ5, ι5, sr4.grow g5, hr5, ?_⟩
              cases q6 : te ρ4 μ5 with
              | bad => rw [q6] at h2; exact h2.elim
              | exc e μ => rw [q6] at h2; exact h2.elim
              | ok y μ6 =>
                rw [q6] at h2
                simp only [R.nex_ok, R.bind_ok] at h2
                intro yv ι6 H6 g6 hr6 ry
                split at h2
                · rename_i hz
                  have g26 := g25.trans g6
                  have hD6 : H6 D = some (.lst us) := g26.frm _ _ hl2 hD2
                  have hb6 : D ∈ ι6.b := g26.ghs _ hb2
                  have hl6 : D ∉ ι6.l := fun z => by
                    rcases g26.new D z with q | q
                    · exact hl2 q
                    · rw [hD2] at q; cases q
                  have f6 : ∀ {x : PV} {v : V}, Rep K ι6 H6 x v → Rep K ι6 (upd H6 D (.lst (us ++ [yv]))) x v := fun r => r.ghw hD6 hb6
                  have gr6 := gr2.trans g26
                  have ne1 : ∀ a o, H1 a = some o → a ≠ D := fun a o e z => by rw [z, hD] at e; cases e
                  refine ⟨us, hD6, by rw [← ra2.length] at hi2; rw [← line_eq]; unfold line; omega, μ6, ι6, acc ++ [y], us ++ [yv], ⟨hb6, hl6, upd_same, RepL.mapR f6 ((ra2.grow g26).append (.cons_ ry .nil_)), hr6.mapR rfl (fun a ha => upd_ne_none (hr6.gb a ha)) (fun a u ha e => by rw [upd_ne (fun z => by rw [z] at ha; exact hl6 ha)]; exact e) f6,
                    ⟨gr6.pre, gr6.gho, gr6.ghs, fun a ha => upd_ne_none (gr6.liv a ha), fun a vs s => sqT_upd (.inr hD6) (gr6.tup a vs s), fun a o u e => by rw [upd_ne (ne1 a _ e)]; exact gr6.frz a o u e, fun a o n e => by rw [upd_ne (ne1 a _ e)]; exact gr6.frm a o n e, gr6.new⟩⟩, by rw [List.length_append]; simp; omega, SR.mapR f6 ((sr3.grow g5).grow g6), ?_⟩
                  rw [R.bind_bind] at h2
                  simpa only [R.bind_ok, List.append_assoc, List.cons_append, List.nil_append] using h2
                · exact h2.elim
theorem lift_lc {K : PySem.W.Frag} {vs : List Nat} (ct : CTok K g dg vs) {σ : L2.St} {H : Hp} {Q : VK} (h : LE K W (dLc di dg tt te vs) σ H Q) : tLc (LI K W di) g (LT K W0 tt) (LE K W0 te) vs σ H Q := by
  refine lift_lcA ct (kf := fun ys μ => .ok (.lst ys) μ) (fun ι1 H1 μ1 D ι μ H acc us hr1 hD mk h => ?_) h
  have hl : (⟨ι.l, ι1.b⟩ : Io).l = ι.l := rfl
  have hb : ∀ a, a ∈ (⟨ι.l, ι1.b⟩ : Io).b → a ∈ ι.b := fun a ha => mk.gr.ghs a ha
  have f : ∀ {x : PV} {v : V}, Rep K ι H x v → Rep K (⟨ι.l, ι1.b⟩ : Io) H x v := fun r => r.done hl hb
  have g := mk.gr
  exact h (.ref D) ⟨ι.l, ι1.b⟩ H ⟨g.pre, fun _ h => .inl h, fun _ h => h, g.liv, g.tup, g.frz, g.frm, g.new⟩ (mk.hr.mapR hl (fun a ha => mk.hr.gb a (hb a ha)) (fun _ _ _ e => e) f) ⟨D, us, rfl, ⟨mk.hD, mk.hl, fun z => hr1.gb D z hD⟩, RepL.mapR f mk.ra⟩
theorem lift_lcT {K : PySem.W.Frag} {vs : List Nat} (ct : CTok K g dg vs) {σ : L2.St} {H : Hp} {Q : VK} (h : LE K W (dLcT di dg tt te vs) σ H Q) : tLc (LI K W di) g (LT K W0 tt) (LE K W0 te) vs σ H Q := by
  refine lift_lcA ct (kf := fun ys (μ : Mu) => .ok (.ref (List.length μ)) (μ ++ [Ob.lst ys])) (fun ι1 H1 μ1 D ι μ H acc us hr1 hD mk h => ?_) h
  have hl : (⟨ι.l ++ [D], ι1.b⟩ : Io).l = ι.l ++ [D] := rfl
  have hb : ∀ a, a ∈ (⟨ι.l ++ [D], ι1.b⟩ : Io).b → a ∈ ι.b := fun a ha => mk.gr.ghs a ha
  have f : ∀ {x : PV} {v : V}, Rep K ι H x v → Rep K (⟨ι.l ++ [D], ι1.b⟩ : Io) H x v := fun r => r.doneT hl mk.hb hb
  have g := mk.gr
  have e0 : (⟨ι.l, ι1.b⟩ : Io).snoc D = (⟨ι.l ++ [D], ι1.b⟩ : Io) := rfl
  have hr0 : HR K (⟨ι.l, ι1.b⟩ : Io) μ H := mk.hr.mapR rfl (fun a ha => mk.hr.gb a (hb a ha)) (fun _ _ _ e => e) fun r => r.done (ι := ι) (ι' := ⟨ι.l, ι1.b⟩) rfl hb
  refine h (.ref D) ⟨ι.l ++ [D], ι1.b⟩ H ⟨g.pre.trans (List.prefix_append _ _), fun _ h => .inl h, fun _ h => h, g.liv, g.tup, g.frz, g.frm, fun p hp => ?_⟩ ⟨app_nd (ι := ⟨ι.l, ι1.b⟩) (p := D) hr0 mk.hl, ?_, fun a ha => mk.hr.gb a (hb a ha), app_obj (ι := ⟨ι.l, ι1.b⟩) (p := D) hr0 (fun l o a e1 e2 => ?_) ⟨us, mk.hD, RepL.mapR f mk.ra⟩⟩ ⟨D, rfl, ?_⟩
  · rcases List.mem_append.mp hp with z | z
    · exact g.new p z
    · have e : p = D := by simpa using z
      rw [e]; exact .inr hD
  · rw [List.length_append, List.length_append, mk.hr.len]; rfl
  · have q := mk.hr.obj l o a e1 e2
    cases o with
    | lst xs =>
      obtain ⟨vs, e, r⟩ := q
      exact ⟨vs, e, RepL.mapR f r⟩
  · show (ι.l ++ [D])[μ.length]? = some D
    rw [← mk.hr.len]
    simp
theorem e_lc (hc : X.calm = true) (hN : X.N.Nodup) (hi : PI X tg iter (LI X.K W di)) (ok : BlkOk X.N X.env.scope scope own)
    (hg : ∀ (s : Shared) (H : Hp) (C : Addr) (cl : List (Str × Addr)) (fp : List Addr), PG (X.blk s H scope (compEnvC scope cl C X.env) fp) tg g)
    (ht : ∀ (s : Shared) (H : Hp) (C : Addr) (cl : List (Str × Addr)) (fp : List Addr), PTs (X.blk s H scope (compEnvC scope cl C X.env) fp) ifs (LT X.K W0 tt))
    (he : ∀ (s : Shared) (H : Hp) (C : Addr) (cl : List (Str × Addr)) (fp : List Addr), PE (X.blk s H scope (compEnvC scope cl C X.env) fp) elt (LE X.K W0 te)) (ct : CTok X.K g dg (own.map (·.2))) (hs : ∀ x, foldedSetIterable iter X.env x = pure x := by intro _; rfl) :
    PE X (.ListComp elt [⟨tg, iter, ifs, 0⟩] scope pos) (LE X.K W (dLc di dg tt te (own.map (·.2)))) :=
  (pe_lc hc hN hi ok hg ht he hs).mono fun σ H Q h => lift_lc ct h
theorem e_lcT (hc : X.calm = true) (hN : X.N.Nodup) (hi : PI X tg iter (LI X.K W di)) (ok : BlkOk X.N X.env.scope scope own)
    (hg : ∀ (s : Shared) (H : Hp) (C : Addr) (cl : List (Str × Addr)) (fp : List Addr), PG (X.blk s H scope (compEnvC scope cl C X.env) fp) tg g)
    (ht : ∀ (s : Shared) (H : Hp) (C : Addr) (cl : List (Str × Addr)) (fp : List Addr), PTs (X.blk s H scope (compEnvC scope cl C X.env) fp) ifs (LT X.K W0 tt))
    (he : ∀ (s : Shared) (H : Hp) (C : Addr) (cl : List (Str × Addr)) (fp : List Addr), PE (X.blk s H scope (compEnvC scope cl C X.env) fp) elt (LE X.K W0 te)) (ct : CTok X.K g dg (own.map (·.2))) (hs : ∀ x, foldedSetIterable iter X.env x = pure x := by intro _; rfl) :
    PE X (.ListComp elt [⟨tg, iter, ifs, 0⟩] scope pos) (LE X.K W (dLcT di dg tt te (own.map (·.2)))) :=
  (pe_lc hc hN hi ok hg ht he hs).mono fun σ H Q h => lift_lcT ct h
theorem s_setLc {i : Nat} {y : Str} {py spos : Pos} (hc : X.calm = true) (hN : X.N.Nodup) (hi : PI X tg iter (LI X.K W di)) (ok : BlkOk X.N X.env.scope scope own)
    (hg : ∀ (s : Shared) (H : Hp) (C : Addr) (cl : List (Str × Addr)) (fp : List Addr), PG (X.blk s H scope (compEnvC scope cl C X.env) fp) tg g)
    (ht : ∀ (s : Shared) (H : Hp) (C : Addr) (cl : List (Str × Addr)) (fp : List Addr), PTs (X.blk s H scope (compEnvC scope cl C X.env) fp) ifs (LT X.K W0 tt))
    (he : ∀ (s : Shared) (H : Hp) (C : Addr) (cl : List (Str × Addr)) (fp : List Addr), PE (X.blk s H scope (compEnvC scope cl C X.env) fp) elt (LE X.K W0 te)) (ct : CTok X.K g dg (own.map (·.2)))
    (hy : X.N[i]? = some y := by rfl) (hyl : X.env.scope.names.lookup y = some .local := by rfl)
    (hsw : swapsWith (.ListComp elt [⟨tg, iter, ifs, 0⟩] scope pos) (some (.Name y py)) spos.line X.env = pure true := by exact sw_true rfl rfl rfl (by decide +kernel)) (hs : ∀ x, foldedSetIterable iter X.env x = pure x := by intro _; rfl) :
    PS X (.Assign [.Name y py] (.ListComp elt [⟨tg, iter, ifs, 0⟩] scope pos) spos) (LS X.K W (dAsg (dLc di dg tt te (own.map (·.2))) (gN i))) := by
  refine (ps_setLc hc hN hy hyl hsw hi ok hg ht he hs).mono fun D σ H ⟨ρ, μ, ι, sr, hr, h⟩ => ?_
  refine lift_lc ct (W := W) ⟨ρ, μ, ι, sr, hr, Post.mono (Post.thn sr h) ?_⟩
  rintro v H1 ⟨x, μ1, ι1, g1, hr1, r1, sr1, h1⟩
  exact h1 _ ι1 H1 .refl hr1 (sr1.set r1 i)
theorem s_setLcT {i : Nat} {y : Str} {py spos : Pos} (hc : X.calm = true) (hN : X.N.Nodup) (hi : PI X tg iter (LI X.K W di)) (ok : BlkOk X.N X.env.scope scope own)
    (hg : ∀ (s : Shared) (H : Hp) (C : Addr) (cl : List (Str × Addr)) (fp : List Addr), PG (X.blk s H scope (compEnvC scope cl C X.env) fp) tg g)
    (ht : ∀ (s : Shared) (H : Hp) (C : Addr) (cl : List (Str × Addr)) (fp : List Addr), PTs (X.blk s H scope (compEnvC scope cl C X.env) fp) ifs (LT X.K W0 tt))
    (he : ∀ (s : Shared) (H : Hp) (C : Addr) (cl : List (Str × Addr)) (fp : List Addr), PE (X.blk s H scope (compEnvC scope cl C X.env) fp) elt (LE X.K W0 te)) (ct : CTok X.K g dg (own.map (·.2)))
    (hy : X.N[i]? = some y := by rfl) (hyl : X.env.scope.names.lookup y = some .local := by rfl)
    (hsw : swapsWith (.ListComp elt [⟨tg, iter, ifs, 0⟩] scope pos) (some (.Name y py)) spos.line X.env = pure true := by exact sw_true rfl rfl rfl (by decide +kernel)) (hs : ∀ x, foldedSetIterable iter X.env x = pure x := by intro _; rfl) :
    PS X (.Assign [.Name y py] (.ListComp elt [⟨tg, iter, ifs, 0⟩] scope pos) spos) (LS X.K W (dAsg (dLcT di dg tt te (own.map (·.2))) (gN i))) := by
  refine (ps_setLc hc hN hy hyl hsw hi ok hg ht he hs).mono fun D σ H ⟨ρ, μ, ι, sr, hr, h⟩ => ?_
  refine lift_lcT ct (W := W) ⟨ρ, μ, ι, sr, hr, Post.mono (Post.thn sr h) ?_⟩
  rintro v H1 ⟨x, μ1, ι1, g1, hr1, r1, sr1, h1⟩
  exact h1 _ ι1 H1 .refl hr1 (sr1.set r1 i)
end
end GB
set_option Elab.async false
set_option linter.all false
set_option maxRecDepth 100000
set_option maxHeartbeats 2000000
namespace GB
open PySem PySem.Spec PyProof.Rows L2
/-! ### defs that let no exception out -/
abbrev NoE : WE := fun _ _ _ _ => False
abbrev DF := List PV → Mu → R PV
def sp0 (K : PySem.W.Frag) (n : Nat) (f : DF) : Sp := fun vs H Q _ => ∃ as μ ι, as.length = n ∧ RepL K ι H as vs ∧ HR K ι μ H ∧ Post K NoE (fun ι H => Rep K ι H) ι H (f as μ).nex Q
theorem sp0_len {K : PySem.W.Frag} {n : Nat} {f : DF} {vs : List V} {H : Hp} {Q : VK} {E : XK} (h : sp0 K n f vs H Q E) : vs.length = n := by
  obtain ⟨as, μ, ι, e, r, _⟩ := h
  rw [r.length, e]
def runF (N : Nat) (d : DS) : DF := fun as μ => match d (as.map some ++ List.replicate (N - as.length) none) μ with
  | .rt v μ => .ok v μ
  | .nx _ μ => .ok .non μ
  | _ => .bad
theorem SR.start {K : PySem.W.Frag} {ι : Io} {H : Hp} (m : Nat) : ∀ {as : List PV} {vs : List V}, RepL K ι H as vs → SR K ι H (as.map some ++ List.replicate m none) (vs.map some ++ List.replicate m none)
  | [], _, r => by
    rw [show _ = [] from r]
    show SR K ι H (List.replicate m none) (List.replicate m none)
    induction m with
    | zero => rfl
    | succ m ih => exact ⟨none, _, rfl, trivial, ih⟩
  | a :: as, _, ⟨v, t, e, r1, r2⟩ => by
    subst e
    exact ⟨some v, _, rfl, ⟨v, rfl, r1⟩, SR.start m r2⟩
theorem body0 {K : PySem.W.Frag} {n : Nat} {N : List Str} {d : DS} {vs : List V} {H : Hp} {Q : VK} {E : XK} (h : sp0 K n (runF N.length d) vs H Q E) :
    LS K W0 d { nx := fun _ H' => Q .non H', rt := Q } (L2.start N vs) H := by
  obtain ⟨as, μ, ι, e, r, hr, h⟩ := h
  unfold L2.start
  rw [r.length]
  refine ⟨_, μ, ι, SR.start _ r, hr, ?_⟩
  unfold runF at h
  cases q : d (as.map some ++ List.replicate (N.length - as.length) none) μ with
  | rt v μ' => rw [q] at h; exact fun u ι' H' g hr' rr => h u ι' H' g hr' rr
  | nx ρ μ' => rw [q] at h; exact fun σ' ι' H' g hr' _ => h .non ι' H' g hr' rfl
  | bk ρ μ' => rw [q] at h; exact h.elim
  | ct ρ μ' => rw [q] at h; exact h.elim
  | exc e ρ μ' => rw [q] at h; exact h.elim
  | bad => rw [q] at h; exact h
def dCall (n : Nat) (f : DF) (a : Dn (List PV)) : Dn PV := fun ρ μ => (a ρ μ).bind fun as μ => if as.length = n then (f as μ).nex else .bad
/-- a weaker promise: where g tells a result, f tells the same -/
theorem sp0_imp {K : PySem.W.Frag} {n : Nat} {f g : DF} (h : ∀ as μ v μ', as.length = n → g as μ = .ok v μ' → f as μ = .ok v μ') {vs : List V} {H : Hp} {Q : VK} {E : XK} (q : sp0 K n g vs H Q E) : sp0 K n f vs H Q E := by
  obtain ⟨as, μ, ι, e, r, hr, q⟩ := q
  refine ⟨as, μ, ι, e, r, hr, ?_⟩
  cases z : g as μ with
  | ok v μ' => rw [h as μ v μ' e z]; rw [z] at q; exact q
  | exc e μ' => rw [z] at q; exact q.elim
  | bad => rw [z] at q; exact q.elim
section
variable {P : Program} {w : World} {K : PySem.W.Frag} {mg : Str → Option Value} {base : Heap}
/-- THE RULE for a def -/
theorem fn0 {x qual : Str} {params : Arguments} {body : List Stmt} {scope : Scope} {f : Addr} {fd : FuncData} {N ps : List Str} {k n : Nat} {d : DS} (F : FunD K x qual params body scope [] [] f fd) (S : FnScope N ps scope) (hn : ps.length = n)
    (hb : ∀ (cdv : Value) (A : Around) (outer : List Env) (s : Shared) (H : Hp) (E : XK), Room k (A.deeper (envOfC qual scope s.heap.objs.size f cdv)) → PSs (cxOf CX0 P w K mg base N qual scope f cdv A outer s H E).nox body (LS K W0 d)) : FnOk P w K mg base CX0 (k + 1) f fd ps (sp0 K n (runF N.length d)) :=
  F.ok S (fun vs H Q E h => by rw [sp0_len h, hn]) fun cdv A outer s H vs Q E hr h => ⟨LS K W0 d, PSs.nox (hb cdv A outer s H E hr), body0 h⟩
end
/-! ### calls -/
section
variable {X : Cx} {W : WS} {k n : Nat} {f : Addr} {fd : FuncData} {ps : List Str} {g : DF} {x : Str} {p pos : Pos} {e : Expr} {es : List Expr} {dl : Dn (List PV)}
theorem lift_call {K : PySem.W.Frag} {σ : L2.St} {H : Hp} {Q : VK} {E : XK} (h : LE K W (dCall n g dl) σ H Q) : tCall (sp0 K n g) [] E (LA K W dl) σ H Q := by
  obtain ⟨ρ, μ, ι, sr, hr, h⟩ := h
  refine ⟨ρ, μ, ι, sr, hr, Post.mono (Post.bind h) ?_⟩
  rintro v H1 ⟨as, μ1, ι1, g1, hr1, r1, h1⟩
  split at h1
  · rename_i hn
    refine ⟨as, μ1, ι1, hn, by rw [List.append_nil]; exact r1, hr1, ?_⟩
    cases z : g as μ1 with
    | ok v μ' => rw [z] at h1; exact h1
    | exc e μ' => rw [z] at h1; exact h1.elim
    | bad => rw [z] at h1; exact h1.elim
  · exact h1.elim
theorem e_call (F : FnOk X.prog X.w X.K X.mg X.base CX0 k f fd ps (sp0 X.K n g)) (hr : Room k X.A) (hm : X.mg x = some (.ref f)) (hk : PySem.W.keepIn X.K (.ref f) = true) (hb : Binds X.K fd ps [])
    (ha : PA X (e :: es) (LA X.K W dl)) (hg : Gl X x := by rfl) (hdb : (x == ("__debug__" : Str)) = false := by decide) (he : starEach (e :: es) X.env = (false, eval e X.env) :: starEach es X.env := by rfl) (hpl : (backTo pos (starEach es X.env)).any (·.1) = false := by rfl) :
    PE X (.Call (.Name x p) (e :: es) [] pos) (LE X.K W (dCall n g dl)) :=
  (pe_call F hr hg hm hk hb .nil pass0 ha hdb he hpl).mono fun σ H Q h => lift_call h
theorem e_call0 (F : FnOk X.prog X.w X.K X.mg X.base CX0 k f fd ps (sp0 X.K 0 g)) (hr : Room k X.A) (hm : X.mg x = some (.ref f)) (hk : PySem.W.keepIn X.K (.ref f) = true) (hb : Binds X.K fd ps [])
    (hg : Gl X x := by rfl) (hdb : (x == ("__debug__" : Str)) = false := by decide) :
    PE X (.Call (.Name x p) [] [] pos) (LE X.K W (dCall 0 g dNil)) :=
  (pe_call0 F hr hg hm hk hb .nil pass0 hdb).mono fun σ H Q h => by
    obtain ⟨ρ, μ, ι, sr, hr, h⟩ := h
    have h2 : Post X.K (W σ) (fun ι H => Rep X.K ι H) ι H ((g [] μ).nex) Q := h
    have h3 : Post X.K NoE (fun ι H => Rep X.K ι H) ι H ((g [] μ).nex) Q := by
      cases z : g [] μ with
      | ok v μ' => rw [z] at h2; exact h2
      | exc e μ' => rw [z] at h2; exact h2.elim
      | bad => rw [z] at h2; exact h2.elim
    exact ⟨[], μ, ι, rfl, .nil_, hr, h3⟩
end
/-! ### the law's end -/
def scriptP (ns : List Int) : PV := .scr (ns.map .int)
theorem law_end {l : PySem.W.OpenLaw} {n k : Nat} {q : Program} {loose : List Str} {XP : (Str → Option Value) → Heap → Prop} {YP : World → Heap → Prop} {d : DefRec} {x : Str} {f : DF}
    (hn : l.most = some n) (hn2 : n ≤ sizeLine) (hdf : d.params.defaults = []) (hr : Room k callerA)
    (F : ∀ (w : World) (mg : Str → Option Value) (fa : Addr) (h : Heap), YP w h → h.Ns mainGlobals mg → mg d.name = some (.ref fa) →
      ∃ (K : PySem.W.Frag) (fd : FuncData), K.In h ∧ (∀ (s : Shared) (u : Value), BindsTo s fd ⟨[u], []⟩ [(x, u)]) ∧
        ∀ base : Heap, K.In base → base.Ns mainGlobals mg → FnOk l.prog w K mg base CX0 k fa fd [x] (sp0 K 1 f))
    (hf : ∀ ns : List Int, ns.length ≤ n → (∀ z ∈ ns, Builtin.Int.intBits z ≤ 1048576) → ∃ μ, f [scriptP ns] [] = .ok (.bl true) μ) :
    PySem.W.WalkO q loose XP YP l.row.toRowW d [] (fun f vs => PySem.call f vs) := by
  refine Att.attach_callB hn hdf fun w s₀ s₁ mg mb fa o pm cd doc a vs ns G Y ho hd hcd hmg hobj hints hlen hbits hg => ?_
  obtain ⟨K, fd, KX, hb, hF⟩ := F w mg fa _ Y G.T.g hmg
  refine law_call KX G.T.g G.T.b G.T.builtins G.T.nolimit hg hobj hints (Nat.le_trans hlen hn2) hr hF hb (fun H hO hS => ?_) fun H e s' h => h
  obtain ⟨μ, e⟩ := hf ns hlen hbits
  refine ⟨[scriptP ns], [], ⟨[], []⟩, rfl, .cons_ ⟨a, ns.map V.int, rfl, ?_, rep_ints ns⟩ .nil_, ⟨fun l k b e1 => by simp at e1, rfl, fun a ha => by simp at ha, fun l ob b e1 => by simp at e1⟩, ?_⟩
  · rcases hS with (h | ⟨o, h⟩) | h
    · rcases hO a with z | ⟨o, xs, z⟩
      · rw [h] at z; cases z
      · rw [h] at z; cases z
    · exact .inl ⟨o, h⟩
    · exact .inr h
  · rw [e]
    exact fun v ι' H' _ _ r => r
end GB
set_option Elab.async false
set_option linter.all false
set_option maxRecDepth 100000
set_option maxHeartbeats 2000000
namespace GB
open PySem PySem.Spec PyProof.Rows L2
/-! ### a def that may be called -/
structure Cal (P : Program) (w : World) (K : PySem.W.Frag) (mg : Str → Option Value) (base : Heap) (x : Str) (lvl n : Nat) (g : DF) : Prop where
  ex : ∃ (f : Addr) (fd : FuncData) (ps : List Str), mg x = some (.ref f) ∧ PySem.W.keepIn K (.ref f) = true ∧ Binds K fd ps [] ∧ FnOk P w K mg base CX0 lvl f fd ps (sp0 K n g)
section
variable {P : Program} {w : World} {K : PySem.W.Frag} {mg : Str → Option Value} {base : Heap}
theorem Cal.imp {x : Str} {lvl n : Nat} {f g : DF} (c : Cal P w K mg base x lvl n f) (h : ∀ as μ v μ', as.length = n → g as μ = .ok v μ' → f as μ = .ok v μ') : Cal P w K mg base x lvl n g := by
  obtain ⟨a, fd, ps, h1, h2, h3, h4⟩ := c.ex
  exact ⟨a, fd, ps, h1, h2, h3, h4.imp fun vs H Q E q => sp0_imp h q⟩
theorem Cal.up {x : Str} {lvl lvl' n : Nat} {f : DF} (c : Cal P w K mg base x lvl n f) (h : lvl ≤ lvl') : Cal P w K mg base x lvl' n f := by
  obtain ⟨a, fd, ps, h1, h2, h3, h4⟩ := c.ex
  exact ⟨a, fd, ps, h1, h2, h3, h4.mono h⟩
theorem cal_of {x qual : Str} {params : Arguments} {body : List Stmt} {scope : Scope} {f : Addr} {fd : FuncData} {N ps : List Str} {k n : Nat} {d : DS} (F : FunD K x qual params body scope [] [] f fd) (S : FnScope N ps scope) (hn : ps.length = n) (hm : mg x = some (.ref f))
    (hbind : ∀ (kV doc pm : Value) (an : Option Addr) (cdv ct : Value) (us : List Value), us.length = ps.length → bindArgs (PySem.W.fnOf x qual params body scope .none kV doc pm an cdv ct) ⟨us, []⟩ = pure (ps.zip us))
    (hb : ∀ (cdv : Value) (A : Around) (outer : List Env) (s : Shared) (H : Hp) (E : XK), Room k (A.deeper (envOfC qual scope s.heap.objs.size f cdv)) → PSs (cxOf CX0 P w K mg base N qual scope f cdv A outer s H E).nox body (LS K W0 d)) :
    Cal P w K mg base x (k + 1) n (runF N.length d) :=
  ⟨f, fd, ps, hm, F.kp, F.bindsN hbind, fn0 F S hn hb⟩
end
section
variable {X : Cx} {W : WS} {k n : Nat} {g : DF} {x : Str} {p pos : Pos} {e : Expr} {es : List Expr} {dl : Dn (List PV)}
theorem e_callC (C : Cal X.prog X.w X.K X.mg X.base x k n g) (hr : Room k X.A)
    (ha : PA X (e :: es) (LA X.K W dl)) (hg : Gl X x := by rfl) (hdb : (x == ("__debug__" : Str)) = false := by decide) (he : starEach (e :: es) X.env = (false, eval e X.env) :: starEach es X.env := by rfl) (hpl : (backTo pos (starEach es X.env)).any (·.1) = false := by rfl) :
    PE X (.Call (.Name x p) (e :: es) [] pos) (LE X.K W (dCall n g dl)) := by
  obtain ⟨f, fd, ps, h1, h2, h3, h4⟩ := C.ex
  exact e_call h4 hr h1 h2 h3 ha hg hdb he hpl
theorem e_callC0 (C : Cal X.prog X.w X.K X.mg X.base x k 0 g) (hr : Room k X.A) (hg : Gl X x := by rfl) (hdb : (x == ("__debug__" : Str)) = false := by decide) : PE X (.Call (.Name x p) [] [] pos) (LE X.K W (dCall 0 g dNil)) := by
  obtain ⟨f, fd, ps, h1, h2, h3, h4⟩ := C.ex
  exact e_call0 h4 hr h1 h2 h3 hg hdb
end
/-- the built-ins that the module does not shadow -/
structure Blt (mg : Str → Option Value) : Prop where
  abs : mg "abs" = none
  all : mg "all" = none
  any : mg "any" = none
  bool : mg "bool" = none
  dict : mg "dict" = none
  enumerate : mg "enumerate" = none
  int : mg "int" = none
  isinstance : mg "isinstance" = none
  len : mg "len" = none
  list : mg "list" = none
  max : mg "max" = none
  min : mg "min" = none
  range : mg "range" = none
  set : mg "set" = none
  sorted : mg "sorted" = none
  str : mg "str" = none
  sum : mg "sum" = none
  tuple : mg "tuple" = none
  zip : mg "zip" = none
  valueError : mg "ValueError" = none
  super : mg "super" = none
def bltNames : List Str := ["abs", "all", "any", "bool", "dict", "enumerate", "int", "isinstance", "len", "list", "max", "min", "range", "set", "sorted", "str", "sum", "tuple", "zip", "ValueError", "super"]
theorem blt_of {mg : Str → Option Value} (h : ∀ (i : Nat) (x : Str), bltNames[i]? = some x → mg x = none) : Blt mg :=
  ⟨h 0 _ rfl, h 1 _ rfl, h 2 _ rfl, h 3 _ rfl, h 4 _ rfl, h 5 _ rfl, h 6 _ rfl, h 7 _ rfl, h 8 _ rfl, h 9 _ rfl, h 10 _ rfl, h 11 _ rfl, h 12 _ rfl, h 13 _ rfl, h 14 _ rfl, h 15 _ rfl, h 16 _ rfl, h 17 _ rfl, h 18 _ rfl, h 19 _ rfl, h 20 _ rfl⟩

/-! ### enumerate of a list -/
theorem itl_enum {K : PySem.W.Frag} {ι : Io} {H : Hp} {j : DI} {a : Addr} (s : SrcL K ι H j a) : ItL K ι H (jEnum j) (Ite K a) := ⟨fun i ι1 μ1 H1 g hr => by
  unfold jEnum
  rcases s ι1 μ1 H1 g hr i with e | ⟨xs, vs, e, h2, h3⟩
  · rw [e]; trivial
  · rw [e]
    simp only [Option.map_some]
    cases q2 : xs[i]? with
    | none =>
      refine ⟨vs, h2, ?_⟩
      rw [h3.length]
      exact List.getElem?_eq_none_iff.mp q2
    | some x =>
      obtain ⟨u, e1, e2⟩ := h3.get q2
      refine ⟨⟨vs, u, h2, e1⟩, fun v H' ⟨T, x', e3, e4, e5, e6⟩ => ?_⟩
      subst e3 e5
      have z1 := e6 vs h2
      rw [e1] at z1
      cases z1
      exact ⟨grow_new e4, hr.new e4, T, _, rfl, .of upd_same, .cons_ rfl (.cons_ (e2.grow (grow_new e4)) .nil_)⟩⟩
end GB
namespace GB
open PySem PySem.Spec PyProof.Rows L2
section
variable {P : Program} {w : World} {K : PySem.W.Frag} {mg : Str → Option Value} {base : Heap}
/-- a def of which nothing is promised -/
theorem cal_bad {x qual : Str} {params : Arguments} {body : List Stmt} {scope : Scope} {f : Addr} {fd : FuncData} {N ps : List Str} {k n : Nat} (F : FunD K x qual params body scope [] [] f fd) (S : FnScope N ps scope) (hn : ps.length = n) (hm : mg x = some (.ref f))
    (hbind : ∀ (kV doc pm : Value) (an : Option Addr) (cdv ct : Value) (us : List Value), us.length = ps.length → bindArgs (PySem.W.fnOf x qual params body scope .none kV doc pm an cdv ct) ⟨us, []⟩ = pure (ps.zip us)) :
    Cal P w K mg base x k n (fun _ _ => .bad) :=
  ⟨f, fd, ps, hm, F.kp, F.bindsN hbind, ⟨fun vs H Q E h => by rw [sp0_len h, hn], fun A outer s H args us vs Q E hr he hb r h => by
    obtain ⟨as, μ, ι, e, r, hr, h⟩ := h
    exact h.elim⟩⟩
end
end GB
set_option Elab.async false
set_option linter.all false
set_option maxRecDepth 100000
set_option maxHeartbeats 2000000
namespace GB
open PySem PySem.Spec PyProof.Rows L2
/-! ### the frame: what a def told over nothing but its arguments does among other objects -/
mutual
/-- no list in it -/
def flat : PV → Bool
  | .non | .bl _ | .int _ | .str _ => true
  | .tup xs => flatL xs
  | _ => false
def flatL : List PV → Bool
  | [] => true
  | x :: xs => flat x && flatL xs
end
mutual
/-- no list in it that is written -/
def noref : PV → Bool
  | .non | .bl _ | .int _ | .str _ => true
  | .tup xs => norefL xs
  | .lst xs => norefL xs
  | _ => false
def norefL : List PV → Bool
  | [] => true
  | x :: xs => noref x && norefL xs
end
mutual
theorem flat_noref : ∀ {x : PV}, flat x = true → noref x = true
  | .non, _ | .bl _, _ | .int _, _ | .str _, _ => rfl
  | .tup xs, h => flat_norefL (xs := xs) h
theorem flat_norefL : ∀ {xs : List PV}, flatL xs = true → norefL xs = true
  | [], _ => rfl
  | x :: xs, h => by
    unfold flatL at h
    unfold norefL
    rw [Bool.and_eq_true] at h ⊢
    exact ⟨flat_noref h.1, flat_norefL h.2⟩
end
section
variable {K : PySem.W.Frag} {ι ι' : Io} {H H' : Hp}
mutual
theorem Rep.flat_ (ht : ∀ a vs, SqT K H a vs → SqT K H' a vs) : ∀ {x : PV} {v : V}, flat x = true → Rep K ι H x v → Rep K ι' H' x v
  | .non, _, _, h => h
  | .bl _, _, _, h => h
  | .int _, _, _, h => h
  | .str _, _, _, h => h
  | .tup xs, _, f, ⟨a, vs, e, s, r⟩ => ⟨a, vs, e, ht a vs s, RepL.flat_ ht (xs := xs) f r⟩
theorem RepL.flat_ (ht : ∀ a vs, SqT K H a vs → SqT K H' a vs) : ∀ {xs : List PV} {vs : List V}, flatL xs = true → RepL K ι H xs vs → RepL K ι' H' xs vs
  | [], _, _, h => h
  | x :: xs, _, f, ⟨v, r, e, h1, h2⟩ => by
    unfold flatL at f
    rw [Bool.and_eq_true] at f
    exact ⟨v, r, e, Rep.flat_ ht f.1 h1, RepL.flat_ ht f.2 h2⟩
end
mutual
theorem Rep.noref_ (ht : ∀ a vs, SqT K H a vs → SqT K H' a vs) (hi : ∀ a vs, InL ι H a vs → InL ι' H' a vs) : ∀ {x : PV} {v : V}, noref x = true → Rep K ι H x v → Rep K ι' H' x v
  | .non, _, _, h => h
  | .bl _, _, _, h => h
  | .int _, _, _, h => h
  | .str _, _, _, h => h
  | .tup xs, _, f, ⟨a, vs, e, s, r⟩ => ⟨a, vs, e, ht a vs s, RepL.noref_ ht hi (xs := xs) f r⟩
  | .lst xs, _, f, ⟨a, vs, e, s, r⟩ => ⟨a, vs, e, hi a vs s, RepL.noref_ ht hi (xs := xs) f r⟩
theorem RepL.noref_ (ht : ∀ a vs, SqT K H a vs → SqT K H' a vs) (hi : ∀ a vs, InL ι H a vs → InL ι' H' a vs) : ∀ {xs : List PV} {vs : List V}, norefL xs = true → RepL K ι H xs vs → RepL K ι' H' xs vs
  | [], _, _, h => h
  | x :: xs, _, f, ⟨v, r, e, h1, h2⟩ => by
    unfold norefL at f
    rw [Bool.and_eq_true] at f
    exact ⟨v, r, e, Rep.noref_ ht hi f.1 h1, RepL.noref_ ht hi f.2 h2⟩
end
/-! what is read of the written lists: values that speak of none -/
mutual
def rsW (f : Nat → Option PV) : PV → Option PV
  | .non => some .non
  | .bl b => some (.bl b)
  | .int i => some (.int i)
  | .str x => some (.str x)
  | .tup xs => (rsWL f xs).map .tup
  | .lst xs => (rsWL f xs).map .lst
  | .scr _ => none
  | .ref l => f l
  | .raw _ => none
def rsWL (f : Nat → Option PV) : List PV → Option (List PV)
  | [] => some []
  | x :: xs => (rsW f x).bind fun y => (rsWL f xs).map fun ys => y :: ys
end
def rs1 (μ : Mu) (l : Nat) : Option PV := (getL μ l).bind fun xs => if norefL xs then some (.lst xs) else none
def rs2 (μ : Mu) (l : Nat) : Option PV := (getL μ l).bind fun xs => (rsWL (rs1 μ) xs).map .lst
abbrev rs (μ : Mu) : PV → Option PV := rsW (rs2 μ)
abbrev rsL (μ : Mu) : List PV → Option (List PV) := rsWL (rs2 μ)
mutual
theorem rsW_noref (f : Nat → Option PV) : ∀ {x : PV}, noref x = true → rsW f x = some x
  | .non, _ | .bl _, _ | .int _, _ | .str _, _ => rfl
  | .tup xs, h => by unfold rsW; rw [rsWL_noref f (xs := xs) h]; rfl
  | .lst xs, h => by unfold rsW; rw [rsWL_noref f (xs := xs) h]; rfl
theorem rsWL_noref (f : Nat → Option PV) : ∀ {xs : List PV}, norefL xs = true → rsWL f xs = some xs
  | [], _ => rfl
  | x :: xs, h => by
    unfold norefL at h
    rw [Bool.and_eq_true] at h
    unfold rsWL
    rw [rsW_noref f h.1, rsWL_noref f h.2]; rfl
end
abbrev io0 : Io := ⟨[], []⟩
mutual
theorem rsW_rep {f : Nat → Option PV} (hf : ∀ l a y, ι.l[l]? = some a → f l = some y → Rep K io0 H y (.ref a)) : ∀ {x y : PV} {v : V}, rsW f x = some y → Rep K ι H x v → Rep K io0 H y v
  | .non, _, _, e, h => by cases e; exact h
  | .bl _, _, _, e, h => by cases e; exact h
  | .int _, _, _, e, h => by cases e; exact h
  | .str _, _, _, e, h => by cases e; exact h
  | .tup xs, y, _, e, ⟨a, vs, e1, s, r⟩ => by
    unfold rsW at e
    cases q : rsWL f xs with
    | none => rw [q] at e; cases e
    | some ys =>
      rw [q] at e
      cases e
      exact ⟨a, vs, e1, s, rsWL_rep hf q r⟩
  | .lst xs, y, _, e, ⟨a, vs, e1, s, r⟩ => by
    unfold rsW at e
    cases q : rsWL f xs with
    | none => rw [q] at e; cases e
    | some ys =>
      rw [q] at e
      cases e
      exact ⟨a, vs, e1, ⟨s.1, List.not_mem_nil, List.not_mem_nil⟩, rsWL_rep hf q r⟩
  | .scr _, _, _, e, _ => by cases e
  | .ref l, y, _, e, ⟨a, e1, h⟩ => by
    subst e1
    exact hf l a y h e
  | .raw _, _, _, e, _ => by cases e
theorem rsWL_rep {f : Nat → Option PV} (hf : ∀ l a y, ι.l[l]? = some a → f l = some y → Rep K io0 H y (.ref a)) : ∀ {xs ys : List PV} {vs : List V}, rsWL f xs = some ys → RepL K ι H xs vs → RepL K io0 H ys vs
  | [], _, _, e, h => by cases e; exact h
  | x :: xs, _, _, e, ⟨v, r, e1, h1, h2⟩ => by
    unfold rsWL at e
    cases q : rsW f x with
    | none => rw [q] at e; cases e
    | some y => cases q2 : rsWL f xs with
      | none => rw [q, q2] at e; cases e
      | some ys =>
        rw [q, q2] at e
        cases e
        exact ⟨v, r, e1, rsW_rep hf q h1, rsWL_rep hf q2 h2⟩
end
theorem rs1_rep {μ : Mu} (h : HR K ι μ H) (l : Nat) (a : Addr) (y : PV) (hi : ι.l[l]? = some a) (e : rs1 μ l = some y) : Rep K io0 H y (.ref a) := by
  unfold rs1 at e
  cases q : getL μ l with
  | none => rw [q] at e; cases e
  | some xs =>
    rw [q] at e
    simp only [Option.bind_some] at e
    split at e
    · rename_i hn
      cases e
      obtain ⟨b, vs, h1, h2, h3⟩ := getM_at h q
      rw [hi] at h1
      cases h1
      exact ⟨a, vs, rfl, ⟨h2, List.not_mem_nil, List.not_mem_nil⟩, h3.noref_ (fun _ _ s => s) (fun _ _ s => ⟨s.1, List.not_mem_nil, List.not_mem_nil⟩) hn⟩
    · cases e
theorem rs2_rep {μ : Mu} (h : HR K ι μ H) (l : Nat) (a : Addr) (y : PV) (hi : ι.l[l]? = some a) (e : rs2 μ l = some y) : Rep K io0 H y (.ref a) := by
  unfold rs2 at e
  cases q : getL μ l with
  | none => rw [q] at e; cases e
  | some xs =>
    rw [q] at e
    simp only [Option.bind_some] at e
    cases q2 : rsWL (rs1 μ) xs with
    | none => rw [q2] at e; cases e
    | some ys =>
      rw [q2] at e
      cases e
      obtain ⟨b, vs, h1, h2, h3⟩ := getM_at h q
      rw [hi] at h1
      cases h1
      exact ⟨a, vs, rfl, ⟨h2, List.not_mem_nil, List.not_mem_nil⟩, rsWL_rep (rs1_rep h) q2 h3⟩
/-- all objects of the caller stand as they stood -/
theorem frame_back {μ : Mu} {ιc ι' : Io} (h : HR K ι μ H) (hl : ιc.l = []) (g : Grow K ιc H ι' H') : Grow K ι H ι H' ∧ HR K ι μ H' := by
  have keep : ∀ a o, H a = some o → H' a = some o := fun a o e => g.frm a o (by rw [hl]; simp) e
  have gg : Grow K ι H ι H' := ⟨List.prefix_refl _, fun _ h => .inl h, fun _ h => h, g.liv, g.tup, g.frz, fun a o _ e => keep a o e, fun _ h => .inl h⟩
  exact ⟨gg, h.nd, h.len, fun a ha => g.liv a (h.gb a ha), fun l o a e1 e2 => (h.obj l o a e1 e2).grow gg fun u e => keep a u e⟩
theorem hr_nil {b : Io} (hl : b.l = []) (hb : ∀ a, a ∈ b.b → H a ≠ none) : HR K b [] H := ⟨fun l k a e => by rw [hl] at e; simp at e, by rw [hl]; rfl, hb, fun l o a e => by simp at e⟩
end
/-- what F says of f: its value, its list read out if it hands back one that is written (tr) -/
def Ends (tr : Bool) (f : DF) (bs : List PV) (v : PV) : Prop := match tr with
  | false => noref v = true ∧ ∃ μ', f bs [] = .ok v μ'
  | true => ∃ xs l μ', v = .lst xs ∧ norefL xs = true ∧ f bs [] = .ok (.ref l) μ' ∧ getM μ' l = some xs
/-- may it be handed back where written lists were handed in? -/
def plainR (tr : Bool) (v : PV) : Bool := match tr, v with
  | true, .lst xs => flatL xs
  | _, v => flat v
def gZ (tr : Bool) (F : List PV → Option PV) : DF := fun as μ => match rsL μ as with
  | some bs => match F bs with
    | some v => if norefL as || plainR tr v then .ok v μ else .bad
    | none => .bad
  | none => .bad
section
variable {P : Program} {w : World} {K : PySem.W.Frag} {mg : Str → Option Value} {base : Heap} {x : Str} {lvl n : Nat} {f : DF}
theorem Cal.of_sp {g : DF} (c : Cal P w K mg base x lvl n f) (h : ∀ vs H Q E, sp0 K n g vs H Q E → sp0 K n f vs H Q E) : Cal P w K mg base x lvl n g := by
  obtain ⟨a, fd, ps, h1, h2, h3, h4⟩ := c.ex
  exact ⟨a, fd, ps, h1, h2, h3, h4.imp h⟩
theorem Cal.toZ (c : Cal P w K mg base x lvl n f) (tr : Bool) (F : List PV → Option PV) (h : ∀ bs v, bs.length = n → F bs = some v → Ends tr f bs v) : Cal P w K mg base x lvl n (gZ tr F) := by
  refine c.of_sp fun vs H Q E q => ?_
  obtain ⟨as, μ, ι, e, r, hr, q⟩ := q
  unfold gZ at q
  cases z : rsL μ as with
  | none => rw [z] at q; exact q.elim
  | some bs =>
    cases z2 : F bs with
    | none => rw [z] at q; simp only [z2] at q; exact q.elim
    | some v =>
      rw [z] at q
      simp only [z2] at q
      split at q
      · rename_i hc
        have lenB : bs.length = n := by
          rw [← (rsWL_rep (rs2_rep hr) z r).length, r.length, e]
        have hE := h bs v lenB z2
        by_cases hn : norefL as = true
        · -- the caller's objects are hidden
          have eb : bs = as := by
            have := rsWL_noref (rs2 μ) hn
            exact Option.some.inj (z.symm.trans this)
          subst eb
          have hb : ∀ a, a ∈ (⟨[], ι.l ++ ι.b⟩ : Io).b → H a ≠ none := fun a ha => by
            rcases List.mem_append.mp ha with z | z
            · intro z2; exact hr.fresh z2 z
            · exact hr.gb a z
          have r0 : RepL K (⟨[], ι.l ++ ι.b⟩ : Io) H bs vs := r.noref_ (fun _ _ s => s) (fun a us s => ⟨s.1, List.not_mem_nil, fun z => (List.mem_append.mp z).elim s.2.1 s.2.2⟩) hn
          have back : ∀ {ι' : Io} {H' : Hp} {y : PV} {u : V}, Grow K (⟨[], ι.l ++ ι.b⟩ : Io) H ι' H' → noref y = true → Rep K ι' H' y u → Rep K ι H' y u := fun g hy r => r.noref_ (fun _ _ s => s) (fun a us s => ⟨s.1, fun z => s.2.2 (g.ghs a (List.mem_append_left _ z)), fun z => s.2.2 (g.ghs a (List.mem_append_right _ z))⟩) hy
          have backL : ∀ {ι' : Io} {H' : Hp} {y : List PV} {u : List V}, Grow K (⟨[], ι.l ++ ι.b⟩ : Io) H ι' H' → norefL y = true → RepL K ι' H' y u → RepL K ι H' y u := fun g hy r => r.noref_ (fun _ _ s => s) (fun a us s => ⟨s.1, fun z => s.2.2 (g.ghs a (List.mem_append_left _ z)), fun z => s.2.2 (g.ghs a (List.mem_append_right _ z))⟩) hy
          cases tr with
          | false =>
            obtain ⟨l2, μ', ef⟩ := hE
            refine ⟨bs, [], ⟨[], ι.l ++ ι.b⟩, e, r0, hr_nil rfl hb, ?_⟩
            rw [ef]
            intro u ι' H' g hr' ru
            obtain ⟨g2, hr2⟩ := frame_back hr rfl g
            exact q u ι H' g2 hr2 (back g l2 ru)
          | true =>
            obtain ⟨xs, l, μ', rfl, l2, ef, em⟩ := hE
            refine ⟨bs, [], ⟨[], ι.l ++ ι.b⟩, e, r0, hr_nil rfl hb, ?_⟩
            rw [ef]
            intro u ι' H' g hr' ru
            obtain ⟨g2, hr2⟩ := frame_back hr rfl g
            obtain ⟨p, us, i1, i2, i3⟩ := getM_at hr' em
            obtain rfl := ref_eq ru i1
            have hp : H p = none := (g.new p (List.mem_of_getElem? i1)).elim (fun z => (List.not_mem_nil z).elim) id
            exact q _ ι H' g2 hr2 ⟨p, us, rfl, ⟨i2, hr.fresh hp, fun z => hr.gb p z hp⟩, backL g l2 i3⟩
        · have hc2 : plainR tr v = true := by
            rw [Bool.or_eq_true] at hc
            exact hc.resolve_left hn
          have r0 : RepL K io0 H bs vs := rsWL_rep (rs2_rep hr) z r
          cases tr with
          | false =>
            obtain ⟨l2, μ', ef⟩ := hE
            refine ⟨bs, [], io0, lenB, r0, hr_nil rfl (fun a ha => by simp at ha), ?_⟩
            rw [ef]
            intro u ι' H' g hr' ru
            obtain ⟨g2, hr2⟩ := frame_back hr rfl g
            exact q u ι H' g2 hr2 (ru.flat_ (fun _ _ s => s) hc2)
          | true =>
            obtain ⟨xs, l, μ', rfl, l2, ef, em⟩ := hE
            refine ⟨bs, [], io0, lenB, r0, hr_nil rfl (fun a ha => by simp at ha), ?_⟩
            rw [ef]
            intro u ι' H' g hr' ru
            obtain ⟨g2, hr2⟩ := frame_back hr rfl g
            obtain ⟨p, us, i1, i2, i3⟩ := getM_at hr' em
            obtain rfl := ref_eq ru i1
            have hp : H p = none := (g.new p (List.mem_of_getElem? i1)).elim (fun z => (List.not_mem_nil z).elim) id
            exact q _ ι H' g2 hr2 ⟨p, us, rfl, ⟨i2, hr.fresh hp, fun z => hr.gb p z hp⟩, i3.flat_ (fun _ _ s => s) hc2⟩
      · exact q.elim
end
/-- .. told of values that speak of no written list -/
theorem gZ_ok {tr : Bool} {F : List PV → Option PV} {as : List PV} {v : PV} {μ : Mu} (hn : norefL as = true) (h : F as = some v) : gZ tr F as μ = .ok v μ := by
  unfold gZ
  rw [show rsL μ as = some as from rsWL_noref _ hn]
  simp only [h, hn, Bool.true_or, if_true]
end GB
set_option Elab.async false
set_option linter.all false
set_option maxRecDepth 100000
set_option maxHeartbeats 1000000
namespace GB
open PySem PySem.Spec PyProof.Rows L2
/-! ### the combinators, one step each (for simp) -/
section
variable {ρ : Rho} {μ : Mu} {a b c : Dn PV} {l r : Dn (List PV)} {s t : Dn Bool} {d e : DS} {i j k n : Nat} {v w : PV} {f g : PV → PV → Mu → R PV}
@[simp] theorem dC_ : dC v ρ μ = .ok v μ := ndf rfl
@[simp] theorem dNil_ : dNil ρ μ = .ok [] μ := ndf rfl
@[simp] theorem dCons_ : dCons a r ρ μ = (a ρ μ).bind fun x μ => (r ρ μ).bind fun xs μ => .ok (x :: xs) μ := ndf rfl
@[simp] theorem dTup_ : dTup l ρ μ = (l ρ μ).bind fun xs μ => if xs.length ≤ 16777216 then .ok (.tup xs) μ else .bad := ndf rfl
@[simp] theorem dLst_ : dLst l ρ μ = (l ρ μ).bind fun xs μ => if xs.length ≤ 16777216 then .ok (.ref μ.length) (μ ++ [.lst xs]) else .bad := ndf rfl
@[simp] theorem dLstI_ : dLstI l ρ μ = (l ρ μ).bind fun xs μ => if xs.length ≤ 16777216 then .ok (.lst xs) μ else .bad := ndf rfl
@[simp] theorem dOp_ : dOp f a b ρ μ = (a ρ μ).bind fun x μ => (b ρ μ).bind fun y μ => f x y μ := ndf rfl
@[simp] theorem dUn_ {f : PV → Mu → R PV} : dUn f a ρ μ = (a ρ μ).bind fun x μ => f x μ := ndf rfl
@[simp] theorem dApp_ {f : List PV → Mu → R PV} : dApp f l ρ μ = (l ρ μ).bind fun xs μ => f xs μ := ndf rfl
def unB (v : PV) (μ : Mu) : R Bool := match v with
  | .bl k => .ok k μ
  | _ => .bad
@[simp] theorem unB_ {b : Bool} : unB (.bl b) μ = .ok b μ := ndf rfl
@[simp] theorem asB_ : asB a ρ μ = (a ρ μ).bind unB := ndf rfl
def unT (v : PV) (μ : Mu) : R Bool := match fTru v μ with
  | some k => .ok k μ
  | none => .bad
@[simp] theorem unT_bl {b : Bool} : unT (.bl b) μ = .ok b μ := ndf rfl
@[simp] theorem dTru_ : dTru a ρ μ = (a ρ μ).bind unT := ndf rfl
@[simp] theorem fTru_bl {b : Bool} : fTru (.bl b) μ = some b := ndf rfl
def byT (o : Option Bool) (x y : R PV) : R PV := match o with
  | some true => x
  | some false => y
  | none => .bad
@[simp] theorem byT_t {x y : R PV} : byT (some true) x y = x := ndf rfl
@[simp] theorem byT_f {x y : R PV} : byT (some false) x y = y := ndf rfl
@[simp] theorem byT_b {b : Bool} {x y : R PV} : byT (some b) x y = if b = true then x else y := by cases b <;> rfl
def notT (o : Option Bool) (μ : Mu) : R PV := match o with
  | some k => .ok (.bl (!k)) μ
  | none => .bad
@[simp] theorem notT_ {b : Bool} : notT (some b) μ = .ok (.bl (!b)) μ := ndf rfl
@[simp] theorem dAnd_ : dAnd a b ρ μ = (a ρ μ).bind fun x μ => byT (fTru x μ) (b ρ μ) (.ok x μ) := ndf rfl
@[simp] theorem dOr_ : dOr a b ρ μ = (a ρ μ).bind fun x μ => byT (fTru x μ) (.ok x μ) (b ρ μ) := ndf rfl
@[simp] theorem dNot_ : dNot a ρ μ = (a ρ μ).bind fun x μ => notT (fTru x μ) μ := ndf rfl
@[simp] theorem fTru_int {m : Int} : fTru (.int m) μ = some (m != 0) := ndf rfl
@[simp] theorem fTru_non : fTru .non μ = some false := ndf rfl
@[simp] theorem fTru_tup {xs : List PV} : fTru (.tup xs) μ = some (!xs.isEmpty) := ndf rfl
@[simp] theorem fTru_lst {xs : List PV} : fTru (.lst xs) μ = some (!xs.isEmpty) := ndf rfl
theorem fTru_ref {xs : List PV} (h : getL μ i = some xs) : fTru (.ref i) μ = some (!xs.isEmpty) := by unfold fTru; simp only [h, Option.map_some]
@[simp] theorem dAndB_ : dAndB s t ρ μ = (s ρ μ).bind fun k μ => if k = true then t ρ μ else .ok false μ := ndf rfl
@[simp] theorem dOrB_ : dOrB s t ρ μ = (s ρ μ).bind fun k μ => if k = true then .ok true μ else t ρ μ := ndf rfl
@[simp] theorem dNotB_ : dNotB s ρ μ = (s ρ μ).bind fun k μ => .ok (!k) μ := ndf rfl
@[simp] theorem dIf_ : dIf s a b ρ μ = (s ρ μ).bind fun k μ => if k = true then a ρ μ else b ρ μ := ndf rfl
@[simp] theorem dYes_ : dYes ρ μ = .ok true μ := ndf rfl
@[simp] theorem dNoPart_ : dNoPart ρ μ = .ok none μ := ndf rfl
def unI (v : PV) (μ : Mu) : R (Option Int) := match v with
  | .int i => .ok (some i) μ
  | _ => .bad
@[simp] theorem unI_ {i : Int} : unI (.int i) μ = .ok (some i) μ := ndf rfl
@[simp] theorem dPart_ : dPart a ρ μ = (a ρ μ).bind unI := ndf rfl
@[simp] theorem dSl_ {lo hi : DO} : dSl a lo hi ρ μ = (a ρ μ).bind fun x μ => (lo ρ μ).bind fun l μ => (hi ρ μ).bind fun h μ => fSl x l h μ := ndf rfl
@[simp] theorem dCall_ {f : DF} : dCall n f l ρ μ = (l ρ μ).bind fun as μ => if as.length = n then (f as μ).nex else .bad := ndf rfl
def methL (x : PV) (μ : Mu) (r : R PV) : R PV := match x with
  | .ref k => match getL μ k with
    | some _ => r
    | none => .bad
  | _ => .bad
theorem methL_ok {xs : List PV} {r : R PV} (h : getL μ i = some xs) : methL (.ref i) μ r = r := by unfold methL; simp only [h]
@[simp] theorem dMeth_ {f : PV → List PV → Mu → R PV} : dMeth f a l ρ μ = (a ρ μ).bind fun x μ => methL x μ ((l ρ μ).bind fun ys μ => f x ys μ) := by
  unfold dMeth
  cases a ρ μ with
  | ok o μ => cases o <;> rfl
  | exc _ _ => rfl
  | bad => rfl
@[simp] theorem dMeth0_ {f : PV → List PV → Mu → R PV} : dMeth0 f a ρ μ = (a ρ μ).bind fun x μ => methL x μ (f x [] μ) := by
  unfold dMeth0
  cases a ρ μ with
  | ok o μ => cases o <;> rfl
  | exc _ _ => rfl
  | bad => rfl
@[simp] theorem dSkip_ : dSkip ρ μ = .nx ρ μ := ndf rfl
def O.seq (o : O) (f : Rho → Mu → O) : O := match o with
  | .nx ρ μ => f ρ μ
  | o => o
@[simp] theorem seq_nx {f : Rho → Mu → O} : (O.nx ρ μ).seq f = f ρ μ := ndf rfl
@[simp] theorem seq_rt {f : Rho → Mu → O} : (O.rt v μ).seq f = .rt v μ := ndf rfl
@[simp] theorem seq_bk {f : Rho → Mu → O} : (O.bk ρ μ).seq f = .bk ρ μ := ndf rfl
@[simp] theorem seq_ct {f : Rho → Mu → O} : (O.ct ρ μ).seq f = .ct ρ μ := ndf rfl
@[simp] theorem seq_bad {f : Rho → Mu → O} : O.bad.seq f = .bad := ndf rfl
@[simp] theorem dSeq_ : dSeq d e ρ μ = (d ρ μ).seq e := ndf rfl
def O.toR (o : O) : R PV := match o with
  | .rt v μ => .ok v μ
  | .nx _ μ => .ok .non μ
  | _ => .bad
@[simp] theorem toR_rt : (O.rt v μ).toR = .ok v μ := ndf rfl
@[simp] theorem toR_nx : (O.nx ρ μ).toR = .ok .non μ := ndf rfl
theorem runF_ {as : List PV} : runF n d as μ = (d (as.map some ++ List.replicate (n - as.length) none) μ).toR := rfl
@[simp] theorem dDrop_ : dDrop a ρ μ = (a ρ μ).thn ρ fun _ μ => .nx ρ μ := ndf rfl
@[simp] theorem dRet_ : dRet a ρ μ = (a ρ μ).thn ρ fun v μ => .rt v μ := ndf rfl
@[simp] theorem dRetN_ : dRetN ρ μ = .rt .non μ := ndf rfl
@[simp] theorem dIfS_ : dIfS s d e ρ μ = (s ρ μ).thn ρ fun k μ => if k = true then d ρ μ else e ρ μ := ndf rfl
@[simp] theorem gN_ : gN i v ρ μ = .ok (ρ.set i (some v)) μ := ndf rfl
@[simp] theorem gsN_ : gsN [] ρ μ = .ok ρ μ := ndf rfl
@[simp] theorem gsC_ {g : DG} {gs : DGs} {vs : List PV} : gsC g gs (v :: vs) ρ μ = (g v ρ μ).bind fun ρ μ => gs vs ρ μ := ndf rfl
@[simp] theorem gT_l {gs : DGs} {vs : List PV} : gT n gs (.lst vs) ρ μ = if vs.length = n then gs vs ρ μ else .bad := ndf rfl
@[simp] theorem gT_ {gs : DGs} {vs : List PV} : gT n gs (.tup vs) ρ μ = if vs.length = n then gs vs ρ μ else .bad := ndf rfl
def aft (r : R Rho) : O := match r with
  | .ok ρ μ => .nx ρ μ
  | _ => .bad
@[simp] theorem aft_ : aft (.ok ρ μ) = .nx ρ μ := ndf rfl
@[simp] theorem dAsg_ {g : DG} : dAsg a g ρ μ = (a ρ μ).thn ρ fun v μ => aft (g v ρ μ) := by
  unfold dAsg
  congr
def subSet (o i v : PV) (ρ : Rho) (μ : Mu) : R Rho := match o, i with
  | .ref l, .int k => match getM μ l with
    | some xs => match ixN xs.length k with
      | some j => .ok ρ (μ.set l (.lst (xs.set j v)))
      | none => .bad
    | none => .bad
  | _, _ => .bad
@[simp] theorem gSubL_ : gSubL a b v ρ μ = (a ρ μ).bind fun o μ => (b ρ μ).bind fun i μ => subSet o i v ρ μ := ndf rfl
theorem subSet_ok {l j : Nat} {k : Int} {xs : List PV} (h : getM μ l = some xs) (h2 : ixN xs.length k = some j) : subSet (.ref l) (.int k) v ρ μ = .ok ρ (μ.set l (.lst (xs.set j v))) := by unfold subSet; simp only [h, h2]
def par2 (i j : Nat) (vs : List PV) (ρ : Rho) (μ : Mu) : O := match vs with
  | [v, w] => .nx ((ρ.set i (some v)).set j (some w)) μ
  | _ => .bad
@[simp] theorem par2_ : par2 i j [v, w] ρ μ = .nx ((ρ.set i (some v)).set j (some w)) μ := ndf rfl
@[simp] theorem dPar_ : dPar i j l ρ μ = (l ρ μ).thn ρ fun vs μ => par2 i j vs ρ μ := ndf rfl
def par3 (i j k : Nat) (vs : List PV) (ρ : Rho) (μ : Mu) : O := match vs with
  | [v, w, z] => .nx (((ρ.set i (some v)).set j (some w)).set k (some z)) μ
  | _ => .bad
@[simp] theorem par3_ {z : PV} : par3 i j k [v, w, z] ρ μ = .nx (((ρ.set i (some v)).set j (some w)).set k (some z)) μ := ndf rfl
@[simp] theorem dPar3_ : dPar3 i j k l ρ μ = (l ρ μ).thn ρ fun vs μ => par3 i j k vs ρ μ := ndf rfl
@[simp] theorem dFor_ {di : Rho → Mu → R DI} {g : DG} : dFor di g d ρ μ = (di ρ μ).thn ρ fun j μ => dForN j g d lid 0 ρ μ := ndf rfl
@[simp] theorem dWhile_ : dWhile s d ρ μ = dWhileN s d lid ρ μ := ndf rfl
@[simp] theorem dLc_ {di : Rho → Mu → R DI} {g : PV → Rho → Option Rho} {vs : List Nat} : dLc di g s a vs ρ μ = (di ρ μ).bind fun j μ => (dLcN j g s a (wipeP ρ vs) lid 0 μ).bind fun ys μ => .ok (.lst ys) μ := by
  unfold dLc dLcA
  rw [R.bind_bind]
@[simp] theorem dLcT_ {di : Rho → Mu → R DI} {g : PV → Rho → Option Rho} {vs : List Nat} : dLcT di g s a vs ρ μ = (di ρ μ).bind fun j μ => (dLcN j g s a (wipeP ρ vs) lid 0 μ).bind fun ys (μ : Mu) => .ok (.ref (List.length μ)) (μ ++ [Ob.lst ys]) := by
  unfold dLcT dLcA
  rw [R.bind_bind]
@[simp] theorem diSeq_ : diSeq a ρ μ = (a ρ μ).bind fun x μ => jSeq x μ := ndf rfl
@[simp] theorem jSeq_tup {xs : List PV} : jSeq (.tup xs) μ = .ok (jTup xs) μ := ndf rfl
@[simp] theorem jSeq_lst {xs : List PV} : jSeq (.lst xs) μ = .ok (jTup xs) μ := ndf rfl
theorem jSeq_ref {xs : List PV} (h : getL μ i = some xs) : jSeq (.ref i) μ = .ok (jLst i) μ := by unfold jSeq; simp only [h]
def rng1 (xs : List PV) (μ : Mu) : R DI := match xs with
  | [.int j] => if decide (-4611686018427387904 ≤ j) && decide (j < 4611686018427387904) then .ok (jRng 0 j.toNat) μ else .bad
  | _ => .bad
def rng2 (xs : List PV) (μ : Mu) : R DI := match xs with
  | [.int i, .int j] => if decide (-4611686018427387904 ≤ i) && decide (i < 4611686018427387904) && decide (-4611686018427387904 ≤ j) && decide (j < 4611686018427387904) then .ok (jRng i (j - i).toNat) μ else .bad
  | _ => .bad
@[simp] theorem diRng1_ : diRng1 l ρ μ = (l ρ μ).bind rng1 := ndf rfl
@[simp] theorem diRng2_ : diRng2 l ρ μ = (l ρ μ).bind rng2 := ndf rfl
theorem rng1_ok {j : Int} (h0 : -4611686018427387904 ≤ j) (h1 : j < 4611686018427387904) : rng1 [.int j] μ = .ok (jRng 0 j.toNat) μ := by
  unfold rng1
  simp only [decide_eq_true h0, decide_eq_true h1, Bool.and_true, if_true]
theorem rng2_ok {i j : Int} (h0 : -4611686018427387904 ≤ i) (h1 : i < 4611686018427387904) (h2 : -4611686018427387904 ≤ j) (h3 : j < 4611686018427387904) : rng2 [.int i, .int j] μ = .ok (jRng i (j - i).toNat) μ := by
  unfold rng2
  simp only [decide_eq_true h0, decide_eq_true h1, decide_eq_true h2, decide_eq_true h3, Bool.and_true, if_true]
def zipL (xs : List PV) (μ : Mu) : R DI := match xs with
  | [.tup x, .tup y] => .ok (jZip (jTup x) (jTup y)) μ
  | [x, y] => match jL x μ, jL y μ with
    | some j, some k => .ok (jZip j k) μ
    | _, _ => .bad
  | _ => .bad
@[simp] theorem diZip_ : diZip l ρ μ = (l ρ μ).bind zipL := ndf rfl
@[simp] theorem zipL_tup {x y : List PV} : zipL [.tup x, .tup y] μ = .ok (jZip (jTup x) (jTup y)) μ := ndf rfl
@[simp] theorem zipL_lst {x y : List PV} : zipL [.lst x, .lst y] μ = .ok (jZip (jTup x) (jTup y)) μ := ndf rfl
theorem zipL_ok {xs ys : List PV} (h : getL μ i = some xs) (h2 : getL μ j = some ys) : zipL [.ref i, .ref j] μ = .ok (jZip (jLst i) (jLst j)) μ := by unfold zipL jL; simp only [h, h2, Option.map_some]
end
/-! ### values -/
section
variable {μ : Mu} {i j : Int} {xs ys : List PV} {l : Nat}
@[simp] theorem fAdd_int : fAdd (.int i) (.int j) μ = .ok (.int (i + j)) μ := ndf rfl
@[simp] theorem fSub_int : fSub (.int i) (.int j) μ = .ok (.int (i - j)) μ := ndf rfl
@[simp] theorem fNeg_int : fNeg (.int i) μ = .ok (.int (-i)) μ := ndf rfl
@[simp] theorem fCmp_int {p : Int → Int → Bool} : fCmp p (.int i) (.int j) μ = .ok (.bl (p i j)) μ := ndf rfl
@[simp] theorem fEq_int : fEq (.int i) (.int j) μ = .ok (.bl (decide (i = j))) μ := ndf rfl
@[simp] theorem fNe_int : fNe (.int i) (.int j) μ = .ok (.bl (!decide (i = j))) μ := ndf rfl
@[simp] theorem fEq_bl {i j : Bool} : fEq (.bl i) (.bl j) μ = .ok (.bl (i == j)) μ := ndf rfl
@[simp] theorem fNe_bl {i j : Bool} : fNe (.bl i) (.bl j) μ = .ok (.bl (!(i == j))) μ := ndf rfl
@[simp] theorem fAbs_int : fAbs [.int i] μ = .ok (.int (if i < 0 then -i else i)) μ := ndf rfl
@[simp] theorem fInt_int : fInt [.int i] μ = .ok (.int i) μ := ndf rfl
@[simp] theorem fInt_bl {b : Bool} : fInt [.bl b] μ = .ok (.int (if b then 1 else 0)) μ := ndf rfl
@[simp] theorem fMax_two : fMax [.int i, .int j] μ = .ok (.int (if j > i then j else i)) μ := ndf rfl
@[simp] theorem fMin_two : fMin [.int i, .int j] μ = .ok (.int (if j < i then j else i)) μ := ndf rfl
@[simp] theorem fLen_tup : fLen [.tup xs] μ = .ok (.int xs.length) μ := ndf rfl
@[simp] theorem fLen_lst : fLen [.lst xs] μ = .ok (.int xs.length) μ := ndf rfl
theorem fLen_ref (h : getL μ l = some xs) : fLen [.ref l] μ = .ok (.int xs.length) μ := by unfold fLen lstP; simp only [h]
@[simp] theorem fTuple_tup : fTuple [.tup xs] μ = .ok (.tup xs) μ := ndf rfl
@[simp] theorem fTuple_lst : fTuple [.lst xs] μ = .ok (.tup xs) μ := ndf rfl
theorem fTuple_ref (h : getL μ l = some xs) : fTuple [.ref l] μ = .ok (.tup xs) μ := by unfold fTuple seqP; simp only [h]
@[simp] theorem fList_tup : fList [.tup xs] μ = .ok (.lst xs) μ := ndf rfl
@[simp] theorem fList_lst : fList [.lst xs] μ = .ok (.lst xs) μ := ndf rfl
theorem fList_ref (h : getL μ l = some xs) : fList [.ref l] μ = .ok (.lst xs) μ := by unfold fList seqP; simp only [h]
@[simp] theorem fListT_tup : fListT [.tup xs] μ = .ok (.ref μ.length) (μ ++ [.lst xs]) := ndf rfl
@[simp] theorem fListT_lst : fListT [.lst xs] μ = .ok (.ref μ.length) (μ ++ [.lst xs]) := ndf rfl
theorem fAll_lst {ks : List Bool} (h : allB xs = some ks) : fAll [.lst xs] μ = .ok (.bl (ks.all id)) μ := by unfold fAll lstP; simp only [Option.bind_some, h]
theorem fAny_lst {ks : List Bool} (h : allB xs = some ks) : fAny [.lst xs] μ = .ok (.bl (ks.any id)) μ := by unfold fAny lstP; simp only [Option.bind_some, h]
theorem fSum_lst {ns : List Int} (h : allI xs = some ns) : fSum [.lst xs] μ = .ok (.int ns.sum) μ := by unfold fSum lstP; simp only [Option.bind_some, h]
theorem fMax_lst {m : Int} {ns : List Int} (h : allI xs = some (m :: ns)) : fMax [.lst xs] μ = .ok (.int (maxI m ns)) μ := by unfold fMax lstP; simp only [Option.bind_some, h]
theorem fMin_lst {m : Int} {ns : List Int} (h : allI xs = some (m :: ns)) : fMin [.lst xs] μ = .ok (.int (minI m ns)) μ := by unfold fMin lstP; simp only [Option.bind_some, h]
theorem fSorted_lst {ns : List Int} (h : allI xs = some ns) : fSorted [.lst xs] μ = .ok (.lst ((sortI ns).map .int)) μ := by unfold fSorted lstP; simp only [Option.bind_some, h]
theorem allI_ints : ∀ ns : List Int, allI (ns.map .int) = some ns
  | [] => rfl
  | n :: r => by rw [List.map_cons]; unfold allI; rw [allI_ints r]; rfl
theorem allI_map {α : Type} (f : α → Int) : ∀ ks : List α, allI (ks.map fun k => .int (f k)) = some (ks.map f)
  | [] => rfl
  | n :: r => by rw [List.map_cons]; unfold allI; rw [allI_map f r]; rfl
theorem allB_map {α : Type} (f : α → Bool) : ∀ ks : List α, allB (ks.map fun k => .bl (f k)) = some (ks.map f)
  | [] => rfl
  | n :: r => by rw [List.map_cons]; unfold allB; rw [allB_map f r]; rfl
theorem fAdd_tup (h : xs.length + ys.length ≤ 16777216) : fAdd (.tup xs) (.tup ys) μ = .ok (.tup (xs ++ ys)) μ := by
  unfold fAdd
  simp only [h, if_true]
@[simp] theorem fSl_tup {lo hi : Option Int} : fSl (.tup xs) lo hi μ = .ok (.tup (cutP xs lo hi)) μ := ndf rfl
theorem fAdd_lst (h : xs.length + ys.length ≤ 16777216) : fAdd (.lst xs) (.lst ys) μ = .ok (.lst (xs ++ ys)) μ := by
  unfold fAdd lstP
  simp only [h, if_true]
theorem fSum_tup {ns : List Int} (h : allI xs = some ns) : fSum [.tup xs] μ = .ok (.int ns.sum) μ := by unfold fSum; simp only [h]
@[simp] theorem fSum_two {a b : Int} : fSum [.tup [.int a, .int b]] μ = .ok (.int (a + b)) μ := by
  rw [fSum_tup (ns := [a, b]) rfl]; simp
theorem fIx_tup {v : PV} (h : atI xs i = some v) : fIx (.tup xs) (.int i) μ = .ok v μ := by unfold fIx; simp only [h]
theorem fIx_lst {v : PV} (h : atI xs i = some v) : fIx (.lst xs) (.int i) μ = .ok v μ := by unfold fIx; simp only [h]
theorem fIx_ref {v : PV} (h : getL μ l = some xs) (h2 : atI xs i = some v) : fIx (.ref l) (.int i) μ = .ok v μ := by unfold fIx; simp only [h, Option.bind_some, h2]
theorem mulOk_l (h : i.natAbs < 18446744073709551616) : mulOk i j = true := by
  unfold mulOk
  rw [show Nat.blt i.natAbs 18446744073709551616 = true from Nat.blt_eq.mpr h, Bool.true_or, Bool.true_or]
theorem mulOk_r (h : j.natAbs < 18446744073709551616) : mulOk i j = true := by
  unfold mulOk
  rw [show Nat.blt j.natAbs 18446744073709551616 = true from Nat.blt_eq.mpr h, Bool.or_true, Bool.true_or]
theorem log2_lt {n k : Nat} (h : n < 2 ^ k) (hk : 0 < k) : n.log2 < k := by
  by_cases h0 : n = 0
  · subst h0; exact hk
  · exact (Nat.log2_lt h0).mpr h
theorem mulOk_w {a b : Nat} (h : i.natAbs < 2 ^ a) (h2 : j.natAbs < 2 ^ b) (ha : 0 < a) (hb : 0 < b) (hab : a + b ≤ 134000000) : mulOk i j = true := by
  unfold mulOk
  have h1 := log2_lt h ha
  have h3 := log2_lt h2 hb
  rw [show Nat.blt (i.natAbs.log2 + j.natAbs.log2) 134000000 = true from Nat.blt_eq.mpr (by omega), Bool.or_true]
theorem fMul_ok (h : mulOk i j = true) : fMulI (.int i) (.int j) μ = .ok (.int (i * j)) μ := by unfold fMulI; simp only [h, if_true]
theorem fMul_l (h : i.natAbs < 18446744073709551616) : fMulI (.int i) (.int j) μ = .ok (.int (i * j)) μ := fMul_ok (mulOk_l h)
theorem fMul_r (h : j.natAbs < 18446744073709551616) : fMulI (.int i) (.int j) μ = .ok (.int (i * j)) μ := fMul_ok (mulOk_r h)
theorem fDiv_w {k : Nat} (h : 0 < j) (h2 : j.natAbs < 2 ^ k) (hk : 0 < k) (h9 : k ≤ 9000) : fDiv (.int i) (.int j) μ = .ok (.int (i / j)) μ := by
  unfold fDiv
  have := log2_lt h2 hk
  simp only [decide_eq_true h, show Nat.blt j.natAbs.log2 9000 = true from Nat.blt_eq.mpr (by omega), Bool.and_true, if_true]
theorem fDiv_ok (h : 0 < j) (h2 : j.natAbs < 18446744073709551616) : fDiv (.int i) (.int j) μ = .ok (.int (i / j)) μ := fDiv_w (k := 64) h h2 (by decide) (by decide)
theorem fMod_ok (h : 0 < j) : fMod (.int i) (.int j) μ = .ok (.int (i % j)) μ := by unfold fMod; simp only [h, if_true]
theorem getL_of_M (h : getM μ l = some xs) : getL μ l = some xs := by
  unfold getL; rw [getM_of h]
@[simp] theorem atI_0 {α : Type} {x : α} {xs : List α} : atI (x :: xs) 0 = some x := by simp [atI, ixN, List.length_cons]
theorem atI_k {α : Type} {xs : List α} {k : Nat} {v : α} (h : xs[k]? = some v) : atI xs (k : Int) = some v := atI_nat h
@[simp] theorem fIsi_int : fIsi "int" (.int i) μ = .ok (.bl true) μ := ndf rfl
@[simp] theorem fIsi_intb : fIsi "bool" (.int i) μ = .ok (.bl false) μ := ndf rfl
@[simp] theorem isN_int : fIsN (.int i) μ = .ok (.bl false) μ := ndf rfl
@[simp] theorem isN_non : fIsN .non μ = .ok (.bl true) μ := ndf rfl
@[simp] theorem notN_int : fNotN (.int i) μ = .ok (.bl true) μ := ndf rfl
@[simp] theorem notN_non : fNotN .non μ = .ok (.bl false) μ := ndf rfl
end
section
variable {ρ : Rho} {μ : Mu} {x y z w : Option PV} {i : Nat} {v : PV}
@[simp] theorem dVar_0 : dVar 0 (some v :: ρ) μ = .ok v μ := ndf rfl
@[simp] theorem dVar_1 : dVar 1 (x :: some v :: ρ) μ = .ok v μ := ndf rfl
@[simp] theorem dVar_2 : dVar 2 (x :: y :: some v :: ρ) μ = .ok v μ := ndf rfl
@[simp] theorem dVar_3 : dVar 3 (x :: y :: z :: some v :: ρ) μ = .ok v μ := ndf rfl
@[simp] theorem dVar_4 : dVar 4 (x :: y :: z :: w :: some v :: ρ) μ = .ok v μ := ndf rfl
@[simp] theorem dVar_5 {u : Option PV} : dVar 5 (x :: y :: z :: w :: u :: some v :: ρ) μ = .ok v μ := ndf rfl
@[simp] theorem dVar_6 {u u2 : Option PV} : dVar 6 (x :: y :: z :: w :: u :: u2 :: some v :: ρ) μ = .ok v μ := ndf rfl
@[simp] theorem dVar_7 {u u2 u3 : Option PV} : dVar 7 (x :: y :: z :: w :: u :: u2 :: u3 :: some v :: ρ) μ = .ok v μ := ndf rfl
@[simp] theorem dVar_S {n : Nat} : dVar (n + 5) (x :: y :: z :: w :: v' :: ρ) μ = dVar n ρ μ := by
  unfold dVar
  simp
end
end GB
set_option Elab.async false
set_option linter.all false
set_option maxRecDepth 100000
set_option maxHeartbeats 1000000
namespace GB
open PySem PySem.Spec PyProof.Rows L2
/-! ### loops by invariants, over the plain functions -/
/-- what a turn's end leads to -/
def turnTo (N : Rho → Mu → Prop) (Q : O → Prop) : O → Prop
  | .nx ρ μ => N ρ μ
  | .ct ρ μ => N ρ μ
  | .bk ρ μ => Q (.nx ρ μ)
  | o => Q o
@[simp] theorem turnTo_nx {N : Rho → Mu → Prop} {Q : O → Prop} {ρ : Rho} {μ : Mu} : turnTo N Q (.nx ρ μ) = N ρ μ := ndf rfl
@[simp] theorem turnTo_ct {N : Rho → Mu → Prop} {Q : O → Prop} {ρ : Rho} {μ : Mu} : turnTo N Q (.ct ρ μ) = N ρ μ := ndf rfl
@[simp] theorem turnTo_bk {N : Rho → Mu → Prop} {Q : O → Prop} {ρ : Rho} {μ : Mu} : turnTo N Q (.bk ρ μ) = Q (.nx ρ μ) := ndf rfl
@[simp] theorem turnTo_rt {N : Rho → Mu → Prop} {Q : O → Prop} {v : PV} {μ : Mu} : turnTo N Q (.rt v μ) = Q (.rt v μ) := ndf rfl
theorem forN_gen {j : DI} {g : DG} {b : DS} {Inv : Nat → Rho → Mu → Prop} {Q : O → Prop} {N : Nat} (hle : ∀ i ρ μ, Inv i ρ μ → i ≤ N)
    (step : ∀ i ρ μ, Inv i ρ μ → (j μ i = some none ∧ Q (.nx ρ μ)) ∨ (i < N ∧ ∃ x ρ1 μ1, j μ i = some (some x) ∧ g x ρ μ = .ok ρ1 μ1 ∧ turnTo (Inv (i + 1)) Q (b ρ1 μ1))) :
    ∀ (f i : Nat) (ρ : Rho) (μ : Mu), N < f + i → Inv i ρ μ → Q (dForN j g b f i ρ μ)
  | 0, i, ρ, μ, hf, h => by have := hle i ρ μ h; omega
  | f + 1, i, ρ, μ, hf, h => by
    unfold dForN
    rcases step i ρ μ h with ⟨h1, h2⟩ | ⟨h1, x, ρ1, μ1, h2, h3, h4⟩
    · simp only [h1]; exact h2
    · simp only [h2, h3]
      cases e : b ρ1 μ1 with
      | nx ρ2 μ2 => rw [e] at h4; exact forN_gen hle step f (i + 1) ρ2 μ2 (by omega) h4
      | ct ρ2 μ2 => rw [e] at h4; exact forN_gen hle step f (i + 1) ρ2 μ2 (by omega) h4
      | bk ρ2 μ2 => rw [e] at h4; exact h4
      | rt v μ2 => rw [e] at h4; exact h4
      | exc e2 ρ2 μ2 => rw [e] at h4; exact h4
      | bad => rw [e] at h4; exact h4
/-- over a range -/
theorem for_rng {lo : Int} {n : Nat} {g : DG} {b : DS} {Inv : Nat → Rho → Mu → Prop} {Q : O → Prop} {ρ : Rho} {μ : Mu} (hn : n < lid) (h0 : Inv 0 ρ μ) (hd : ∀ ρ μ, Inv n ρ μ → Q (.nx ρ μ))
    (step : ∀ i ρ μ, i < n → Inv i ρ μ → ∃ ρ1 μ1, g (.int (lo + i)) ρ μ = .ok ρ1 μ1 ∧ turnTo (Inv (i + 1)) Q (b ρ1 μ1)) : Q (dForN (jRng lo n) g b lid 0 ρ μ) := by
  refine forN_gen (Inv := fun i ρ μ => i ≤ n ∧ Inv i ρ μ) (N := n) (fun i ρ μ h => h.1) (fun i ρ μ h => ?_) lid 0 ρ μ (by omega) ⟨Nat.zero_le _, h0⟩
  obtain ⟨hi, h⟩ := h
  by_cases hlt : i < n
  · obtain ⟨ρ1, μ1, e1, e2⟩ := step i ρ μ hlt h
    refine .inr ⟨hlt, _, ρ1, μ1, by unfold jRng; rw [if_pos hlt], e1, ?_⟩
    cases e : b ρ1 μ1 with
    | nx ρ2 μ2 => rw [e] at e2; exact ⟨hlt, e2⟩
    | ct ρ2 μ2 => rw [e] at e2; exact ⟨hlt, e2⟩
    | bk ρ2 μ2 => rw [e] at e2; exact e2
    | rt v μ2 => rw [e] at e2; exact e2
    | exc e2' ρ2 μ2 => rw [e] at e2; exact e2
    | bad => rw [e] at e2; exact e2
  · have : i = n := by omega
    subst this
    exact .inl ⟨by unfold jRng; rw [if_neg hlt], hd ρ μ h⟩
/-- over items that stand: j tells items[i] wherever Inv holds -/
theorem for_items {j : DI} {items : List PV} {g : DG} {b : DS} {Inv : Nat → Rho → Mu → Prop} {Q : O → Prop} {ρ : Rho} {μ : Mu} (hj : ∀ i ρ μ, Inv i ρ μ → j μ i = some (items[i]?)) (hn : items.length < lid) (h0 : Inv 0 ρ μ) (hd : ∀ ρ μ, Inv items.length ρ μ → Q (.nx ρ μ))
    (step : ∀ i x ρ μ, items[i]? = some x → Inv i ρ μ → ∃ ρ1 μ1, g x ρ μ = .ok ρ1 μ1 ∧ turnTo (Inv (i + 1)) Q (b ρ1 μ1)) : Q (dForN j g b lid 0 ρ μ) := by
  refine forN_gen (Inv := fun i ρ μ => i ≤ items.length ∧ Inv i ρ μ) (N := items.length) (fun i ρ μ h => h.1) (fun i ρ μ h => ?_) lid 0 ρ μ (by omega) ⟨Nat.zero_le _, h0⟩
  obtain ⟨hi, h⟩ := h
  by_cases hlt : i < items.length
  · have hx := List.getElem?_eq_getElem hlt
    obtain ⟨ρ1, μ1, e1, e2⟩ := step i _ ρ μ hx h
    refine .inr ⟨hlt, _, ρ1, μ1, by rw [hj i ρ μ h, hx], e1, ?_⟩
    cases e : b ρ1 μ1 with
    | nx ρ2 μ2 => rw [e] at e2; exact ⟨hlt, e2⟩
    | ct ρ2 μ2 => rw [e] at e2; exact ⟨hlt, e2⟩
    | bk ρ2 μ2 => rw [e] at e2; exact e2
    | rt v μ2 => rw [e] at e2; exact e2
    | exc e2' ρ2 μ2 => rw [e] at e2; exact e2
    | bad => rw [e] at e2; exact e2
  · have : i = items.length := by omega
    subst this
    exact .inl ⟨by rw [hj _ ρ μ h, List.getElem?_eq_none (Nat.le_refl _)], hd ρ μ h⟩
/-- while, by a measure -/
theorem whileN_gen {t : Dn Bool} {b : DS} {Inv : Rho → Mu → Prop} {m : Rho → Mu → Nat} {Q : O → Prop}
    (step : ∀ ρ μ, Inv ρ μ → ∃ k μ1, t ρ μ = .ok k μ1 ∧ if k = true then turnTo (fun ρ2 μ2 => Inv ρ2 μ2 ∧ m ρ2 μ2 < m ρ μ) Q (b ρ μ1) else Q (.nx ρ μ1)) :
    ∀ (f : Nat) (ρ : Rho) (μ : Mu), m ρ μ < f → Inv ρ μ → Q (dWhileN t b f ρ μ)
  | 0, ρ, μ, hf, h => by omega
  | f + 1, ρ, μ, hf, h => by
    unfold dWhileN
    obtain ⟨k, μ1, e1, e2⟩ := step ρ μ h
    rw [e1, R.thn_ok]
    cases k with
    | false => rw [if_neg Bool.false_ne_true] at e2 ⊢; exact e2
    | true =>
      rw [if_pos rfl] at e2 ⊢
      cases e : b ρ μ1 with
      | nx ρ2 μ2 => rw [e] at e2; exact whileN_gen step f ρ2 μ2 (by have := e2.2; omega) e2.1
      | ct ρ2 μ2 => rw [e] at e2; exact whileN_gen step f ρ2 μ2 (by have := e2.2; omega) e2.1
      | bk ρ2 μ2 => rw [e] at e2; exact e2
      | rt v μ2 => rw [e] at e2; exact e2
      | exc e2' ρ2 μ2 => rw [e] at e2; exact e2
      | bad => rw [e] at e2; exact e2
theorem while_gen {t : Dn Bool} {b : DS} {Inv : Rho → Mu → Prop} (m : Rho → Mu → Nat) {Q : O → Prop} {ρ : Rho} {μ : Mu} (hm : m ρ μ < lid) (h0 : Inv ρ μ)
    (step : ∀ ρ μ, Inv ρ μ → ∃ k μ1, t ρ μ = .ok k μ1 ∧ if k = true then turnTo (fun ρ2 μ2 => Inv ρ2 μ2 ∧ m ρ2 μ2 < m ρ μ) Q (b ρ μ1) else Q (.nx ρ μ1)) : Q (dWhileN t b lid ρ μ) := whileN_gen step lid ρ μ hm h0
/-! ### comprehensions -/
/-- over items that stand -/
def lcP (g : PV → Rho → Option Rho) (tt : Dn Bool) (te : Dn PV) (ρ : Rho) : List PV → Mu → R (List PV)
  | [] => fun μ => .ok [] μ
  | x :: xs => fun μ => match g x ρ with
    | none => .bad
    | some ρ2 => (tt ρ2 μ).nex.bind fun k μ => match k with
      | true => (te ρ2 μ).nex.bind fun y μ => (lcP g tt te ρ xs μ).bind fun ys μ => .ok (y :: ys) μ
      | false => lcP g tt te ρ xs μ
theorem R.bind_congr {α β : Type} {r : R α} {f g : α → Mu → R β} (h : ∀ a μ, f a μ = g a μ) : r.bind f = r.bind g := by
  cases r <;> simp [h]
theorem lcN_st {j : DI} {g : PV → Rho → Option Rho} {tt : Dn Bool} {te : Dn PV} {ρ : Rho} {items : List PV} (hj : ∀ μ i, j μ i = some (items[i]?)) (hn : items.length ≤ 16777216) :
    ∀ (r : List PV) (f i : Nat) (μ : Mu), items.drop i = r → items.length < f + i ∧ i ≤ items.length → dLcN j g tt te ρ f i μ = lcP g tt te ρ r μ
  | r, 0, i, μ, hd, hf => by
    omega
  | [], f + 1, i, μ, hd, hf => by
    unfold dLcN
    have : items.length ≤ i := List.drop_eq_nil_iff.mp hd
    rw [hj, List.getElem?_eq_none this]
    rfl
  | x :: r, f + 1, i, μ, hd, hf => by
    have hi : i < items.length := by
      apply Classical.byContradiction
      intro z
      rw [List.drop_of_length_le (by omega)] at hd
      cases hd
    have hx : items[i]? = some x := by
      have := List.getElem?_drop (xs := items) (i := i) (j := 0)
      rw [hd] at this
      simpa using this.symm
    have hd2 : items.drop (i + 1) = r := by
      rw [← List.drop_drop, hd]; rfl
    have ih := fun μ => lcN_st (g := g) (tt := tt) (te := te) (ρ := ρ) hj hn r f (i + 1) μ hd2 ⟨by omega, by omega⟩
    unfold dLcN lcP
    rw [hj, hx]
    simp only
    cases g x ρ with
    | none => rfl
    | some ρ2 =>
      simp only
      refine R.bind_congr fun k μ => ?_
      cases k with
      | false => exact ih μ
      | true =>
        refine R.bind_congr fun y μ => ?_
        rw [if_pos (by omega), ih]
theorem lc_tup {g : PV → Rho → Option Rho} {tt : Dn Bool} {te : Dn PV} {ρ : Rho} {items : List PV} {μ : Mu} (hn : items.length ≤ 16777216) : dLcN (jTup items) g tt te ρ lid 0 μ = lcP g tt te ρ items μ :=
  lcN_st (fun μ i => rfl) hn items lid 0 μ rfl ⟨by unfold lid; omega, by omega⟩
def rngI (lo : Int) (n : Nat) : List PV := (List.range n).map fun k => .int (lo + (k : Nat))
theorem jRng_at {μ : Mu} {lo : Int} {n : Nat} (i : Nat) : jRng lo n μ i = some ((rngI lo n)[i]?) := by
  unfold jRng rngI
  by_cases hi : i < n
  · rw [if_pos hi, List.getElem?_map, List.getElem?_range hi]; rfl
  · rw [if_neg hi, List.getElem?_eq_none (by rw [List.length_map, List.length_range]; omega)]
theorem lc_rngP {g : PV → Rho → Option Rho} {tt : Dn Bool} {te : Dn PV} {ρ : Rho} {lo : Int} {n : Nat} {μ : Mu} (hn : n ≤ 16777216) : dLcN (jRng lo n) g tt te ρ lid 0 μ = lcP g tt te ρ (rngI lo n) μ :=
  lcN_st (fun μ i => jRng_at i) (by unfold rngI; rw [List.length_map, List.length_range]; exact hn) _ lid 0 μ rfl ⟨by unfold rngI lid; rw [List.length_map, List.length_range]; omega, Nat.zero_le _⟩
def numd (xs : List PV) : List PV := xs.mapIdx fun i x => .tup [.int i, x]
theorem numd_len (xs : List PV) : (numd xs).length = xs.length := by simp [numd]
theorem numd_get (xs : List PV) (i : Nat) : (numd xs)[i]? = (xs[i]?).map fun x => .tup [.int i, x] := by simp [numd]
theorem jEnum_at {μ : Mu} {xs : List PV} (i : Nat) : jEnum (jTup xs) μ i = some ((numd xs)[i]?) := by rw [numd_get]; rfl
theorem lc_num {g : PV → Rho → Option Rho} {tt : Dn Bool} {te : Dn PV} {ρ : Rho} {xs : List PV} {μ : Mu} (hn : xs.length ≤ 16777216) : dLcN (jEnum (jTup xs)) g tt te ρ lid 0 μ = lcP g tt te ρ (numd xs) μ :=
  lcN_st (fun μ i => jEnum_at i) (by rw [numd_len]; exact hn) _ lid 0 μ rfl ⟨by rw [numd_len]; unfold lid; omega, Nat.zero_le _⟩
def zipI (xs ys : List PV) : List PV := List.zipWith (fun x y => .tup [x, y]) xs ys
theorem jZip_at {μ : Mu} {xs ys : List PV} (i : Nat) : jZip (jTup xs) (jTup ys) μ i = some ((zipI xs ys)[i]?) := by
  unfold jZip jTup zipI
  rw [List.getElem?_zipWith]
  cases xs[i]? <;> cases ys[i]? <;> rfl
theorem lc_zip {g : PV → Rho → Option Rho} {tt : Dn Bool} {te : Dn PV} {ρ : Rho} {xs ys : List PV} {μ : Mu} (hn : xs.length ≤ 16777216) : dLcN (jZip (jTup xs) (jTup ys)) g tt te ρ lid 0 μ = lcP g tt te ρ (zipI xs ys) μ :=
  lcN_st (fun μ i => jZip_at i) (by unfold zipI; rw [List.length_zipWith]; omega) _ lid 0 μ rfl ⟨by unfold zipI lid; rw [List.length_zipWith]; omega, Nat.zero_le _⟩
/-- elements and tests that leave the objects alone, over items that are told by an own type -/
theorem lcP_tyF {α : Type} {g : PV → Rho → Option Rho} {tt : Dn Bool} {te : Dn PV} {ρ : Rho} {μ : Mu} {enc : α → PV} (keep : α → Bool) (v : α → PV) : ∀ {ks : List α},
    (∀ k ∈ ks, ∃ ρ2, g (enc k) ρ = some ρ2 ∧ tt ρ2 μ = .ok (keep k) μ ∧ (keep k = true → te ρ2 μ = .ok (v k) μ)) → lcP g tt te ρ (ks.map enc) μ = .ok ((ks.filter keep).map v) μ
  | [], _ => rfl
  | k :: ks, h => by
    obtain ⟨ρ2, h1, h2, h3⟩ := h k List.mem_cons_self
    have ih := lcP_tyF (ρ := ρ) (μ := μ) (g := g) (tt := tt) (te := te) (enc := enc) keep v (ks := ks) fun k hk => h k (List.mem_cons_of_mem _ hk)
    rw [List.map_cons]
    unfold lcP
    rw [h1]
    simp only [h2, R.nex_ok, R.bind_ok]
    by_cases hk : keep k = true
    · simp only [hk, h3 hk, R.nex_ok, R.bind_ok, ih, List.filter_cons_of_pos hk, List.map_cons]
    · have hk2 : keep k = false := by simpa using hk
      simp only [hk2, ih, List.filter_cons_of_neg hk]
theorem lcP_ty {α : Type} {g : PV → Rho → Option Rho} {te : Dn PV} {ρ : Rho} {μ : Mu} {enc : α → PV} (v : α → PV) {ks : List α}
    (h : ∀ k ∈ ks, ∃ ρ2, g (enc k) ρ = some ρ2 ∧ te ρ2 μ = .ok (v k) μ) : lcP g dYes te ρ (ks.map enc) μ = .ok (ks.map v) μ := by
  have := lcP_tyF (tt := dYes) (g := g) (te := te) (ρ := ρ) (μ := μ) (enc := enc) (fun _ => true) v (ks := ks) fun k hk => by
    obtain ⟨ρ2, h1, h2⟩ := h k hk
    exact ⟨ρ2, h1, rfl, fun _ => h2⟩
  rw [List.filter_eq_self.mpr (fun _ _ => rfl)] at this
  exact this
theorem lc_rng {g : PV → Rho → Option Rho} {te : Dn PV} {ρ : Rho} {lo : Int} {n : Nat} {μ : Mu} (v : Nat → PV) (hn : n ≤ 16777216) (h : ∀ k, k < n → ∃ ρ2, g (.int (lo + (k : Nat))) ρ = some ρ2 ∧ te ρ2 μ = .ok (v k) μ) :
    dLcN (jRng lo n) g dYes te ρ lid 0 μ = .ok ((List.range n).map v) μ := by
  rw [lc_rngP hn]
  exact lcP_ty v fun k hk => h k (List.mem_range.mp hk)
theorem lc_rngF {g : PV → Rho → Option Rho} {tt : Dn Bool} {te : Dn PV} {ρ : Rho} {lo : Int} {n : Nat} {μ : Mu} (keep : Nat → Bool) (v : Nat → PV) (hn : n ≤ 16777216) (h : ∀ k, k < n → ∃ ρ2, g (.int (lo + (k : Nat))) ρ = some ρ2 ∧ tt ρ2 μ = .ok (keep k) μ ∧ (keep k = true → te ρ2 μ = .ok (v k) μ)) :
    dLcN (jRng lo n) g tt te ρ lid 0 μ = .ok (((List.range n).filter keep).map v) μ := by
  rw [lc_rngP hn]
  exact lcP_tyF keep v fun k hk => h k (List.mem_range.mp hk)
theorem lc_ty {α : Type} {g : PV → Rho → Option Rho} {te : Dn PV} {ρ : Rho} {μ : Mu} {enc : α → PV} {ks : List α} (v : α → PV) (hn : ks.length ≤ 16777216)
    (h : ∀ k ∈ ks, ∃ ρ2, g (enc k) ρ = some ρ2 ∧ te ρ2 μ = .ok (v k) μ) : dLcN (jTup (ks.map enc)) g dYes te ρ lid 0 μ = .ok (ks.map v) μ := by
  rw [lc_tup (by rw [List.length_map]; exact hn)]
  exact lcP_ty v h
theorem lc_tyF {α : Type} {g : PV → Rho → Option Rho} {tt : Dn Bool} {te : Dn PV} {ρ : Rho} {μ : Mu} {enc : α → PV} {ks : List α} (keep : α → Bool) (v : α → PV) (hn : ks.length ≤ 16777216)
    (h : ∀ k ∈ ks, ∃ ρ2, g (enc k) ρ = some ρ2 ∧ tt ρ2 μ = .ok (keep k) μ ∧ (keep k = true → te ρ2 μ = .ok (v k) μ)) : dLcN (jTup (ks.map enc)) g tt te ρ lid 0 μ = .ok ((ks.filter keep).map v) μ := by
  rw [lc_tup (by rw [List.length_map]; exact hn)]
  exact lcP_tyF keep v h
/-- over an own type, by the place in the row -/
theorem numd_map {α : Type} (enc : α → PV) (ks : List α) : numd (ks.map enc) = (ks.mapIdx fun i k => (i, k)).map fun p => .tup [.int p.1, enc p.2] := by
  apply List.ext_getElem?
  intro i
  rw [numd_get, List.getElem?_map, List.getElem?_map, List.getElem?_mapIdx]
  cases ks[i]? <;> rfl
theorem zipI_map {α β : Type} (e1 : α → PV) (e2 : β → PV) (ks : List α) (ls : List β) : zipI (ks.map e1) (ls.map e2) = (ks.zip ls).map fun p => .tup [e1 p.1, e2 p.2] := by
  apply List.ext_getElem?
  intro i
  unfold zipI
  rw [List.getElem?_zipWith, List.getElem?_map, List.getElem?_map, List.getElem?_map, List.zip, List.getElem?_zipWith]
  cases ks[i]? <;> cases ls[i]? <;> rfl
theorem getM_last {μ : Mu} {acc : List PV} : getM (μ ++ [.lst acc]) μ.length = some acc := by
  show getL _ _ = _
  unfold getL; simp
theorem getL_last {μ : Mu} {acc : List PV} : getL (μ ++ [.lst acc]) μ.length = some acc := by
  unfold getL; simp
theorem getM_last' {μ : Mu} {acc : List PV} {l : Nat} (h : l = μ.length) : getM (μ ++ [.lst acc]) l = some acc := by rw [h]; exact getM_last
theorem getL_last' {μ : Mu} {acc : List PV} {l : Nat} (h : l = μ.length) : getL (μ ++ [.lst acc]) l = some acc := by rw [h]; exact getL_last
theorem set_last {μ : Mu} {acc acc' : List PV} : (μ ++ [Ob.lst acc]).set μ.length (.lst acc') = μ ++ [.lst acc'] := by
  rw [List.set_append_right _ _ (Nat.le_refl _)]; simp
theorem getL_app {μ ν : Mu} {l : Nat} {xs : List PV} (h : getL μ l = some xs) : getL (μ ++ ν) l = some xs := by
  unfold getL at h ⊢
  by_cases hl : l < μ.length
  · rw [List.getElem?_append_left hl]; exact h
  · rw [List.getElem?_eq_none (by omega)] at h; cases h
theorem getM_app {μ ν : Mu} {l : Nat} {xs : List PV} (h : getM μ l = some xs) : getM (μ ++ ν) l = some xs := getL_app h
theorem getM_lt {μ : Mu} {l : Nat} {xs : List PV} (h : getM μ l = some xs) : l < μ.length := (List.getElem?_eq_some_iff.mp (getM_of h)).1
theorem getL_lt {μ : Mu} {l : Nat} {xs : List PV} (h : getL μ l = some xs) : l < μ.length := by
  unfold getL at h
  by_cases hl : l < μ.length
  · exact hl
  · rw [List.getElem?_eq_none (by omega)] at h; cases h
theorem fAppend_ok {μ : Mu} {l : Nat} {xs : List PV} {y : PV} (h : getM μ l = some xs) (hl : xs.length < 16777216) : fAppend (.ref l) [y] μ = .ok .non (μ.set l (.lst (xs ++ [y]))) := by unfold fAppend; simp only [h, hl, if_true]
theorem getM_set {μ : Mu} {l : Nat} {u u' : List PV} (h : getM μ l = some u) : getM (μ.set l (.lst u')) l = some u' := by
  show getL _ _ = _
  unfold getL; rw [List.getElem?_set_self (getM_lt h)]
theorem getL_set {μ : Mu} {l : Nat} {u u' : List PV} (h : getM μ l = some u) : getL (μ.set l (.lst u')) l = some u' := getL_of_M (getM_set h)
theorem getM_set_ne {μ : Mu} {l k : Nat} {o : Ob} (h : l ≠ k) : getM (μ.set l o) k = getM μ k := by
  show getL _ _ = getL _ _
  unfold getL; rw [List.getElem?_set_ne h]
theorem getL_set_ne {μ : Mu} {l k : Nat} {o : Ob} (h : l ≠ k) : getL (μ.set l o) k = getL μ k := by
  unfold getL; rw [List.getElem?_set_ne h]
@[simp] theorem atI_1 {α : Type} {x y : α} {xs : List α} : atI (x :: y :: xs) 1 = some y := atI_nat (j := 1) rfl
@[simp] theorem atI_2 {α : Type} {x y z : α} {xs : List α} : atI (x :: y :: z :: xs) 2 = some z := atI_nat (j := 2) rfl
@[simp] theorem atI_3 {α : Type} {x y z w : α} {xs : List α} : atI (x :: y :: z :: w :: xs) 3 = some w := atI_nat (j := 3) rfl
@[simp] theorem atI_4 {α : Type} {x y z w w2 : α} {xs : List α} : atI (x :: y :: z :: w :: w2 :: xs) 4 = some w2 := atI_nat (j := 4) rfl
@[simp] theorem atI_m1 {α : Type} {xs : List α} {v : α} : atI (xs ++ [v]) (-1) = some v := atI_last xs v
theorem fIx_tup0 {μ : Mu} {x : PV} {xs : List PV} : fIx (.tup (x :: xs)) (.int 0) μ = .ok x μ := fIx_tup atI_0
theorem fIx_tup1 {μ : Mu} {x y : PV} {xs : List PV} : fIx (.tup (x :: y :: xs)) (.int 1) μ = .ok y μ := fIx_tup atI_1
theorem fIx_tup2 {μ : Mu} {x y z : PV} {xs : List PV} : fIx (.tup (x :: y :: z :: xs)) (.int 2) μ = .ok z μ := fIx_tup atI_2
theorem fPow_lit {i j : Int} {μ : Mu} (h : (decide (0 ≤ j) && decide (j ≤ 1000000) && Nat.blt i.natAbs 18446744073709551616) = true) : fPow (.int i) (.int j) μ = .ok (.int (i ^ j.toNat)) μ := by unfold fPow; simp only [h, if_true]
theorem fSl_ref {μ : Mu} {l : Nat} {xs : List PV} {lo hi : Option Int} (h : getL μ l = some xs) : fSl (.ref l) lo hi μ = .ok (.lst (cutP xs lo hi)) μ := by unfold fSl; simp only [h]
@[simp] theorem fSl_lst {μ : Mu} {xs : List PV} {lo hi : Option Int} : fSl (.lst xs) lo hi μ = .ok (.lst (cutP xs lo hi)) μ := ndf rfl
@[simp] theorem fSl_scr {μ : Mu} {xs : List PV} {lo hi : Option Int} : fSl (.scr xs) lo hi μ = .ok (.lst (cutP xs lo hi)) μ := ndf rfl
theorem cut_from (xs : List PV) (k : Nat) : cutP xs (some (k : Int)) none = xs.drop k := by
  unfold cutP
  rw [HT.sIx_nat, HT.sIx_none]
  by_cases h : k ≤ xs.length
  · rw [Nat.min_eq_left h, List.take_of_length_le (by rw [List.length_drop]; omega)]
  · rw [Nat.min_eq_right (by omega), List.drop_of_length_le (Nat.le_refl _), List.drop_of_length_le (by omega)]; simp
theorem cut_to (xs : List PV) (k : Nat) : cutP xs none (some (k : Int)) = xs.take k := by
  unfold cutP
  rw [HT.sIx_nat, HT.sIx_none, List.drop_zero, Nat.sub_zero]
  by_cases h : k ≤ xs.length
  · rw [Nat.min_eq_left h]
  · rw [Nat.min_eq_right (by omega), List.take_of_length_le (Nat.le_refl _), List.take_of_length_le (by omega)]
theorem cut_both (xs : List PV) (k m : Nat) (h : k ≤ m) : cutP xs (some (k : Int)) (some (m : Int)) = (xs.drop k).take (m - k) := by
  unfold cutP
  rw [HT.sIx_nat, HT.sIx_nat]
  by_cases hk : k ≤ xs.length
  · rw [Nat.min_eq_left hk]
    by_cases hm : m ≤ xs.length
    · rw [Nat.min_eq_left hm]
    · rw [Nat.min_eq_right (by omega), List.take_of_length_le (by rw [List.length_drop]; omega), List.take_of_length_le (by rw [List.length_drop]; omega)]
  · rw [show min k xs.length = xs.length by omega, show min m xs.length = xs.length by omega, List.drop_of_length_le (Nat.le_refl _), List.drop_of_length_le (by omega)]; simp
theorem lid_big : (1180591620717411303424 : Nat) = lid := rfl
/-- a def without arguments whose answer True the kernel works out -/
def okT (r : R PV) : Bool := match r with
  | .ok (.bl true) _ => true
  | _ => false
theorem okT_ok {r : R PV} (h : okT r = true) : ∃ μ, r = .ok (.bl true) μ := by
  unfold okT at h
  split at h
  · exact ⟨_, rfl⟩
  · cases h
def handF (as : List PV) : Option PV := match as with
  | [] => some (.bl true)
  | _ => none
theorem hand_ok {f : DF} (h : okT (f [] []) = true) (as : List PV) (v : PV) (_ : as.length = 0) (hv : handF as = some v) : Ends false f as v := by
  unfold handF at hv
  split at hv
  · cases hv
    exact ⟨rfl, okT_ok h⟩
  · cases hv
@[simp] theorem gZ_hand {μ : Mu} : gZ false handF [] μ = .ok (.bl true) μ := gZ_ok rfl rfl
end GB
set_option Elab.async false
set_option linter.all false
set_option maxRecDepth 100000
set_option maxHeartbeats 2000000
namespace GB
open PySem PySem.Spec PyProof.Rows L2
/-! ### enumerate over a tuple -/
abbrev enH1 (h : Heap) (a : Addr) : Heap := h.push { cls := .type "tuple_iterator", data := .fields #[.ref a, .int 0 0] }
abbrev enH2 (h : Heap) (a : Addr) : Heap := (enH1 h a).push { cls := .type "enumerate", data := .fields #[.none, .bool false, .ref h.objs.size, rawInt 0, .none, .none] }
theorem meets_enT (a : Addr) (its : Array Value) :
    Meets (Builtin.«enumerate.__new__» ⟨[.type "enumerate", .ref a], []⟩) (fun _ R s => s.heap.IsTuple a its ∧ R (.ok (.ret (.ref (enH1 s.heap a).objs.size))) { s with heap := enH2 s.heap a }) :=
  .of_wp fun prog w A R s h => by
    obtain ⟨hp, g, d, tk, os⟩ := s
    obtain ⟨ht, h⟩ := h
    have sub := sub_enumerate
    have hT : Heap.IsTuple (Shared.heap ⟨hp, g, d, tk, os⟩) a its := ht
    wp_walk
    refine wpAny_stack_any fun st => wpAny_pure ?_
    split
    · rename_i c _ _ _ _ _
      cases (c == Value.type "enumerate") <;> (wp_walk using wpAny_pyIter_tuple hT; exact ⟨_, rfl, h⟩)
    · (wp_walk using wpAny_pyIter_tuple hT); exact ⟨_, rfl, h⟩
section
variable {prog : Program} {w : World} {A : Around} {E : Value → Shared → Prop} {s : Shared}
theorem call_enT {a : Addr} {its : Array Value} {Q : Value → Shared → Prop} (ht : s.heap.IsTuple a its)
    (h : ∀ h', IsEnum h' (s.heap.objs.size + 1) s.heap.objs.size 0 .none → h'.IsTupleIter s.heap.objs.size a 0 → (∀ b o, s.heap.get? b = some o → h'.get? b = some o) → Q (.ref (s.heap.objs.size + 1)) { s with heap := h' }) :
    wpAny (model prog w) A (call (.type "enumerate") [.ref a]) Q E s := by
  refine callType_new F.called_enumerate (by decide) (F.typeCall_enumerate_1 _) (F.newCall_enumerate_1 _) (fun obj => F.args_object_init_2 obj _) F.entry_enumerate_new (meets_enT a its) ⟨ht, ?_⟩
  have z1 : (enH1 s.heap a).objs.size = s.heap.objs.size + 1 := Heap.size_push ..
  have g2 : (enH2 s.heap a).get? (enH1 s.heap a).objs.size = some _ := Heap.get?_push_size _ rfl
  have g1 : (enH2 s.heap a).get? s.heap.objs.size = some _ := Heap.get?_push_of_some _ (Heap.get?_push_size _ rfl)
  show _ ∧ _
  rw [z1] at g2 ⊢
  exact ⟨⟨_, g2, rfl⟩, h _ g2 ⟨_, g1, rfl, rfl⟩ fun b o q => Heap.get?_push_of_some _ (Heap.get?_push_of_some _ q)⟩
end
def IteT (K : PySem.W.Frag) (a : Addr) : It :=
  ⟨fun i H => ∃ (ys : List V) (y : V), SqT K H a ys ∧ ys[i]? = some y, fun i H v H' => ∃ T y, v = .ref T ∧ H T = none ∧ H' = upd H T (.tup [.int (i : Nat), y]) ∧ ∀ ys, SqT K H a ys → ys[i]? = some y, fun i H => ∃ ys : List V, SqT K H a ys ∧ ys.length ≤ i⟩
theorem turn_enT {P : Program} {w : World} {K : PySem.W.Frag} {elts : List Expr} {kk : Nat} {tpos : Pos} (a e it : Addr) :
    Turn P w K (.Tuple elts kk tpos) (IteT K a) [e, it] e (fun i h => (∃ old, IsEnum h e it ((i : Nat) : Int) old) ∧ h.IsTupleIter it a i ∧ e ≠ it ∧ e ≠ a ∧ a ≠ it) where
  mem := by simp
  obj := fun i h st b hb => by
    obtain ⟨⟨old, q1⟩, ⟨o, q2, _, q3⟩, _⟩ := st
    rcases (show b = e ∨ b = it by simpa using hb) with z | z <;> subst z
    · exact ⟨_, q1, fun v q => nomatch q⟩
    · exact ⟨o, q2, fun v q => by rw [q3] at q; cases q⟩
  keep := fun i h h' st k => let ⟨⟨old, q1⟩, q2, q3⟩ := st; ⟨⟨old, k e (by simp) _ q1⟩, q2.at fun o q => k it (by simp) o q, q3⟩
  item := by
    intro X hP hw hK hc i pins s σ H E I hf st hg
    subst hP hw hK
    obtain ⟨⟨old, q1⟩, q2, n1, n2, n3⟩ := st
    obtain ⟨ys, y, hq, hy⟩ := hg
    obtain ⟨its, rv, p, _⟩ := I.tuple hq
    obtain ⟨u, hu, ru⟩ := rv.get hy
    have hlt : i < its.length := by
      rw [← rv.length]
      exact (List.getElem?_eq_some_iff.mp hy).1
    have le : e < s.heap.objs.size := Heap.lt_size q1
    have li : it < s.heap.objs.size := by obtain ⟨_, z, _⟩ := q2; exact Heap.lt_size z
    have D : Draws X.prog X.w X.A.in1 it [it, a] its.toArray.size _ _ := Draws.tuple (show X.A.in1.handled = none from I.ok.hd hc) it a n3 its.toArray
    refine wpAny_pyNext_enum_itemD D q1 ⟨q2, p⟩ (by simpa using hlt) n1 (by simp [n1, n2]) fun x h' tk hx ho st' hT hsz hk => ?_
    have hxu : x = u := by
      simp only [List.getElem?_toArray] at hx
      rw [hu] at hx
      exact (Option.some.inj hx).symm
    subst hxu
    refine ⟨_, rfl, wpAny_letOwnedTupleGo_enum (s := { s with heap := h', toks := tk + 1 }) ho fun h'' he' sb => ?_⟩
    have hT2 := (sb.2 _ (Nat.ne_of_gt le)).trans hT
    have fresh : ObjOk X.prog X.w (upd H s.heap.objs.size (.tup [.int (i : Nat), y])) h'' s.heap.objs.size (.tup [.int (i : Nat), y]) :=
      ⟨by show 2 ≤ sizeLine; decide, [.int i tk, x], .cons ⟨_, rfl⟩ (.cons ru .nil), ⟨_, hT2, rfl, _, rfl⟩⟩
    have I1 : Inv X pins σ (upd H s.heap.objs.size (.tup [.int (i : Nat), y])) { s with heap := h'', toks := tk + 1 } :=
      I.turnedNew (ch := [e, it]) (fun b ob hb q => (sb.2 b (fun z => hb (by simp [z]))).trans (hk b ob (fun z => hb (by simp [z])) (fun z => hb (by simp [z])) q)) hf (Nat.le_refl _) fresh
    refine ⟨.ref s.heap.objs.size, _, I1, rfl, ⟨_, y, rfl, I.hok.fresh (Nat.le_refl _), rfl, fun zs hz => by rw [I.tuple_inj hz hq]; exact hy⟩, ⟨⟨x, by rw [show ((i + 1 : Nat) : Int) = (i : Int) + 1 by omega]; exact he'⟩, st'.1.at fun o q => (sb.2 it (Ne.symm n1)).trans q, n1, n2, n3⟩, fun b hb => ?_⟩
    have lb : b < s.heap.objs.size := by
      rcases (show b = e ∨ b = it by simpa using hb) with z | z <;> subst z <;> assumption
    rw [upd_ne (Nat.ne_of_lt lb)]
    exact (hf b hb).1
  done := by
    intro X hP hw hK hc i pins s σ H E I hf st hg
    subst hP hw hK
    obtain ⟨⟨old, q1⟩, q2, n1, n2, n3⟩ := st
    obtain ⟨ys, hq, hy⟩ := hg
    obtain ⟨its, rv, p, _⟩ := I.tuple hq
    obtain ⟨f0, f1, f2, f3, f4, f5⟩ := hf it (by simp)
    have hl := rv.length
    have D : Draws X.prog X.w X.A.in1 it [it, a] i (fun _ _ => True) (fun j h => j = i ∧ h.IsTupleIter it a i ∧ h.IsTuple a its.toArray) :=
      { live := fun _ _ z => let ⟨o, q, _⟩ := z.2.1; ⟨o, q⟩
        frame := fun _ _ _ z k => ⟨z.1, z.2.1.at fun o q => k it (by simp) o q, z.2.2.at fun o q => k a (by simp) o q⟩
        item := fun j _ _ _ lt z _ => absurd z.1 (Nat.ne_of_lt lt)
        done := fun _ _ _ z hE => wpAny_nextOf_tuple_end (show X.A.in1.handled = none from I.ok.hd hc) z.2.1 z.2.2 (by simp; omega) hE }
    exact wpAny_pyNext_enum_endD D q1 ⟨rfl, q2, p⟩ fun h' eb => ⟨rfl, I.turned (t' := s.toks) (fun b o hb q => eb b o hb q) f0 f1 f3 f4 f5⟩
  self := fun A i s Q E st h => let ⟨⟨_, q1⟩, _⟩ := st; wpAny_pyIter_enum q1 h
def iEnT (K : PySem.W.Frag) (ta : TA) : TI := fun σ H R => ta σ H fun vs H1 => ∃ a xs, vs = [.ref a] ∧ ((SqL K H1 a xs ∧ R (Ite K a) H1) ∨ (SqT K H1 a xs ∧ R (IteT K a) H1))
theorem pi_enT {X : Cx} {e : Expr} {ta : TA} {p pos tpos : Pos} {elts : List Expr} {kk : Nat} (hg : Gl X "enumerate") (hm : X.mg "enumerate" = none) (ha : PA X [e] ta) (hs : starEach [e] X.env = [(false, eval e X.env)] := by rfl) :
    PI X (.Tuple elts kk tpos) (.Call (.Name "enumerate" p) [e] [] pos) (iEnT X.K ta) := by
  refine ⟨fun pins s σ H R I h => ?_⟩
  refine Call_ (ld_blt I hg hm boot_enumerate (PyProof.Rows.callWith_type1 (thn (ha.run pos pins s σ H _ I h) fun us s1 ⟨vs, H1, I1, r1, q1⟩ => ?_) hs rfl))
  obtain ⟨a, xs, ex, q⟩ := q1
  subst ex
  cases r1 with
  | cons r rr =>
    cases rr
    cases r
    have le2 : ∀ b : Nat, (b = s1.heap.objs.size + 1 ∨ b = s1.heap.objs.size) → s1.heap.objs.size ≤ b := fun b z => by omega
    rcases q with ⟨hq, q⟩ | ⟨hq, q⟩
    · obtain ⟨its, rv, p', hz⟩ := I1.list hq
      refine call_enumerate_list p'.isList fun h' he hit hsz hk => wpAny_pyIter_enum he ?_
      have I2 : Inv X pins σ H1 { s1 with heap := h' } := I1.kept (t' := s1.toks) hk
      refine ⟨_, [s1.heap.objs.size + 1, s1.heap.objs.size], _, _, H1, rfl, I2, turn_enum a _ s1.heap.objs.size, ⟨⟨.none, he⟩, hit, Nat.succ_ne_self _⟩, fun b hb => ?_, q⟩
      have lb := le2 b (by simpa using hb)
      exact I1.fpOk lb (I1.hok.fresh lb)
    · obtain ⟨its, rv, p', hz⟩ := I1.tuple hq
      have la : a < s1.heap.objs.size := by obtain ⟨_, z, _⟩ := id p'; exact Heap.lt_size z
      refine call_enT p' fun h' he hit hk => wpAny_pyIter_enum he ?_
      have I2 : Inv X pins σ H1 { s1 with heap := h' } := I1.kept (t' := s1.toks) hk
      refine ⟨_, [s1.heap.objs.size + 1, s1.heap.objs.size], _, _, H1, rfl, I2, turn_enT a _ s1.heap.objs.size, ⟨⟨.none, he⟩, hit, Nat.succ_ne_self _, Nat.ne_of_gt (Nat.lt_succ_of_lt la), Nat.ne_of_lt la⟩, fun b hb => ?_, q⟩
      have lb := le2 b (by simpa using hb)
      exact I1.fpOk lb (I1.hok.fresh lb)
theorem itl_enT {K : PySem.W.Frag} {ι : Io} {H : Hp} {xs : List PV} {vs : List V} {a : Addr} (s : SqT K H a vs) (r : RepL K ι H xs vs) : ItL K ι H (jEnum (jTup xs)) (IteT K a) := ⟨fun i ι1 μ1 H1 g hr => by
  unfold jEnum jTup
  have s1 := g.tup a vs s
  have r1 := r.grow g
  simp only [Option.map_some]
  cases q2 : xs[i]? with
  | none =>
    refine ⟨vs, s1, ?_⟩
    rw [r1.length]
    exact List.getElem?_eq_none_iff.mp q2
  | some x =>
    obtain ⟨u, e1, e2⟩ := r1.get q2
    refine ⟨⟨vs, u, s1, e1⟩, fun v H' ⟨T, x', e3, e4, e5, e6⟩ => ?_⟩
    subst e3 e5
    have z1 := e6 vs s1
    rw [e1] at z1
    cases z1
    exact ⟨grow_new e4, hr.new e4, T, _, rfl, .of upd_same, .cons_ rfl (.cons_ (e2.grow (grow_new e4)) .nil_)⟩⟩
/-- enumerate of a list or of a tuple -/
def diEn (a : Dn (List PV)) : Rho → Mu → R DI := fun ρ μ => (a ρ μ).bind fun xs μ => match xs with
  | [.tup ys] => .ok (jEnum (jTup ys)) μ
  | [x] => match jL x μ with
    | some j => .ok (jEnum j) μ
    | none => .bad
  | _ => .bad
theorem i_en {X : Cx} {W : WS} {e : Expr} {p pos tpos : Pos} {dl : Dn (List PV)} {elts : List Expr} {kk : Nat} (hm : X.mg "enumerate" = none) (ha : PA X [e] (LA X.K W dl)) (hg : Gl X "enumerate" := by rfl) (hs : starEach [e] X.env = [(false, eval e X.env)] := by rfl) :
    PI X (.Tuple elts kk tpos) (.Call (.Name "enumerate" p) [e] [] pos) (LI X.K W (diEn dl)) := pi_mono (pi_enT hg hm ha hs) fun σ H R ⟨ρ, μ, ι, sr, hr, h⟩ => by
  refine ⟨ρ, μ, ι, sr, hr, Post.mono (Post.bind h) ?_⟩
  rintro v H1 ⟨x, μ1, ι1, g1, hr1, r1, h1⟩
  split at h1
  · obtain ⟨u, rfl, a1, vs, rfl, s2, r2⟩ := one_rep r1
    exact ⟨a1, vs, rfl, .inr ⟨s2, h1.ok hr1 (itl_enT s2 r2)⟩⟩
  · obtain ⟨u, rfl, r2⟩ := one_rep r1
    split at h1
    · rename_i q1
      obtain ⟨a1, vs, rfl, i2, i3⟩ := src_jL hr1 r2 q1
      exact ⟨a1, vs, rfl, .inl ⟨i2, h1.ok hr1 (itl_enum i3)⟩⟩
    · exact h1.elim
  · exact h1.elim
def enF (xs : List PV) (μ : Mu) : R DI := match xs with
  | [.tup ys] => .ok (jEnum (jTup ys)) μ
  | [x] => match jL x μ with
    | some j => .ok (jEnum j) μ
    | none => .bad
  | _ => .bad
@[simp] theorem diEn_ {l : Dn (List PV)} {ρ : Rho} {μ : Mu} : diEn l ρ μ = (l ρ μ).bind enF := ndf rfl
theorem en_ok {μ : Mu} {l : Nat} {xs : List PV} (h : getL μ l = some xs) : enF [.ref l] μ = .ok (jEnum (jLst l)) μ := by unfold enF jL; simp only [h, Option.map_some]
@[simp] theorem en_lst {μ : Mu} {xs : List PV} : enF [.lst xs] μ = .ok (jEnum (jTup xs)) μ := ndf rfl
@[simp] theorem en_tup {μ : Mu} {xs : List PV} : enF [.tup xs] μ = .ok (jEnum (jTup xs)) μ := ndf rfl
end GB
set_option Elab.async false
set_option linter.all false
set_option maxRecDepth 100000
set_option maxHeartbeats 2000000
namespace GB
open PySem PySem.Spec PyProof.Rows L2
/-! ### min([], default=d): the empty list alone -/
theorem args_minD (a d : Value) : argsOk "min" ⟨[a], [(Str.ofString "default", d)]⟩ := by unfold argsOk; kernel_rfl
section
variable {prog : Program} {w : World} {A : Around} {E : Value → Shared → Prop} {s : Shared}
theorem call_minD {l : Addr} {d : Value} {Q : Value → Shared → Prop} (hh : A.handled = none) (hl : s.heap.IsList l #[])
    (h : ∀ h' : Heap, (∀ b o, s.heap.get? b = some o → h'.get? b = some o) → Q d { s with heap := h' }) : wpAny (model prog w) A (call (.builtin "min") [.ref l] [(Str.ofString "default", d)]) Q E s := by
  have body : wpAny (model prog w) A.in1 (Builtin.«min» ⟨[.ref l], [(Str.ofString "default", d)]⟩) (fun fin s' => match fin with
      | .done f => (match (Except.ok f : Result) with | .ok (.ret v) => Q v s' | .ok _ => False | .error e => E e s')
      | .again c' => c'.quiet = true ∧ codeAny (model prog w) A c' (fun r s' => match r with | .ok (.ret v) => Q v s' | .ok _ => False | .error e => E e s') s') E s := by
    show wpAny _ A.in1 (Builtin.Builtins.bindParams "min" ["key", "default"] 0 ⟨[], [(Str.ofString "default", d)]⟩ >>= _) _ _ s
    refine wpAny_bind (wpAny_of_eq (show Builtin.Builtins.bindParams "min" ["key", "default"] 0 ⟨[], [(Str.ofString "default", d)]⟩ = pure [none, some d] from rfl) ?_)
    refine wpAny_bind (wpAny_pure ?_)
    refine wpAny_bind (wpAny_pyIter_list hl ?_)
    refine wpAny_bind (wpAny_newObj_type ?_)
    rw [show (toString "min" ++ toString ".loop" : String) = "min.loop" by decide]
    refine wpAny_pure ⟨plainId_quiet F.plain_min_loop _, ?_⟩
    refine codeAny_builtin F.entry_min_loop ?_
    rw [Around.under_plainId F.plain_min_loop _]
    show wpAny _ A.in1 (seqItems? _ >>= _) _ _ _
    refine wpAny_bind (wpAny_seqItems (Heap.get?_push_size _ rfl) rfl ?_)
    show wpAny _ A.in1 (tryCatch (pyNext (.ref s.heap.objs.size)) _ >>= _) _ _ _
    have hit : (s.heap.push { cls := .type "list_iterator", data := .fields #[.ref l, .int 0 0] }).IsListIter s.heap.objs.size l 0 := ⟨_, Heap.get?_push_size _ rfl, rfl, rfl⟩
    refine wpAny_bind (wpAny_tryCatch (wpAny_pyNext_list_end (show A.in1.handled = none from hh) (hit.at fun o q => Heap.get?_push_of_some _ q) (hl.at fun o q => Heap.get?_push_of_some _ (Heap.get?_push_of_some _ q)) rfl fun h' eb => ?_))
    refine wpAny_bind (wpAny_rule ?_)
    refine wpAny_pure (h _ fun b o q => ?_)
    have lt := Heap.lt_size q
    exact eb b o (Nat.ne_of_lt lt) (Heap.get?_push_of_some _ (Heap.get?_push_of_some _ q))
  refine wpAny_call (codeAny_call_builtin F.plain_min F.entry_min ?_)
  have ha := args_minD (.ref l) d
  simp only [checkBuiltinCall, F.kind_min]
  cases hs : Manifest.signature? "min" with
  | none => exact wpAny_pure body
  | some sig =>
    simp only [argsOk, hs] at ha
    have h2 : Bind.checkArgs "min" sig ⟨[.ref l], [(Str.ofString "default", d)]⟩ = pure () := ha
    show wpAny _ A.in1 (Bind.checkArgs "min" sig ⟨[.ref l], [(Str.ofString "default", d)]⟩) _ _ s
    rw [h2]
    exact wpAny_pure body
end
def rMinD (K : PySem.W.Frag) : List V → List V → Hp → VK → Prop := fun vs zs H Q => ∃ (a : Addr) (d : V), vs = [V.ref a] ∧ SqL K H a [] ∧ zs = [d] ∧ Q d H
theorem cr_minD {X : Cx} (hc : X.calm = true) : CallRK X (.builtin "min") [Str.ofString "default"] (rMinD X.K) := by
  intro pins s σ H vs zs us ws Q I r1 r2 h
  obtain ⟨a, d, rfl, hs, rfl, q⟩ := h
  obtain ⟨its, rv, hl, _⟩ := I.list hs
  cases r1 with
  | cons x rr =>
    cases rr
    cases x
    cases r2 with
    | cons y ry =>
      cases ry
      cases rv
      exact call_minD (I.ok.hd hc) hl.isList fun h' k => ⟨d, H, I.kept (t' := s.toks) k, y, q⟩
def fMinD (xs : List PV) (v : PV) (μ : Mu) : R PV := match xs with
  | [x] => match lstP x μ with
    | some [] => .ok v μ
    | _ => .bad
  | _ => .bad
/-- min(xs, default=d), the empty list -/
def dMinD (l : Dn (List PV)) (d : Dn PV) : Dn PV := fun ρ μ => (l ρ μ).bind fun xs μ => (d ρ μ).bind fun v μ => fMinD xs v μ
theorem e_minD {X : Cx} {W : WS} {e o : Expr} {es : List Expr} {p pos kpos : Pos} {dl : Dn (List PV)} {dd : Dn PV} (hm : X.mg "min" = none) (ha : PA X (e :: es) (LA X.K W dl)) (hd : PE X o (LE X.K W dd)) (hc : X.calm = true := by rfl) (hg : Gl X "min" := by rfl)
    (he : backTo pos (starEach (e :: es) X.env) = (false, eval e X.env) :: backTo pos (starEach es X.env) := by rfl) (hpl : (backTo pos (starEach (e :: es) X.env)).any (·.1) = false := by rfl)
    (hall : (backToKw pos (keywordEach [⟨some (Str.ofString "default"), o, kpos⟩] X.env)).all (·.1.isSome) = true := by rfl) (hnone : (backToKw pos (keywordEach [⟨some (Str.ofString "default"), o, kpos⟩] X.env)).any (·.1.isNone) = false := by rfl) (hks : (backToKw pos (keywordEach [⟨some (Str.ofString "default"), o, kpos⟩] X.env)).filterMap (·.1) = [Str.ofString "default"] := by rfl) :
    PE X (.Call (.Name "min" p) (e :: es) [⟨some (Str.ofString "default"), o, kpos⟩] pos) (LE X.K W (dMinD dl dd)) :=
  (pe_callBK (cr_minD hc) hg hm (by decide +kernel) ha (pk_cons hd pk_nil) (by decide) (by decide) he hpl hall hnone hks).mono fun σ H Q ⟨ρ, μ, ι, sr, hr, h⟩ => by
    refine ⟨ρ, μ, ι, sr, hr, Post.mono (Post.bind h) ?_⟩
    rintro vs H1 ⟨xs, μ1, ι1, g1, hr1, r1, h1⟩
    refine ⟨ρ, μ1, ι1, sr.grow g1, hr1, Post.mono (Post.bind h1) ?_⟩
    rintro u H2 ⟨y, μ2, ι2, g2, hr2, r2, h2⟩
    unfold fMinD at h2
    split at h2
    · obtain ⟨v, rfl, r⟩ := one_rep r1
      split at h2
      · rename_i q
        obtain ⟨a, ys, rfl, e2, e3, _⟩ := lstP_sq hr2 (r.grow g2) q
        have : ys = [] := List.length_eq_zero_iff.mp (by simpa using e3.length)
        subst this
        exact ⟨a, u, rfl, e2, rfl, h2.ok hr2 r2⟩
      · exact h2.elim
    · exact h2.elim
@[simp] theorem dMinD_ {l : Dn (List PV)} {d : Dn PV} {ρ : Rho} {μ : Mu} : dMinD l d ρ μ = (l ρ μ).bind fun xs μ => (d ρ μ).bind fun v μ => fMinD xs v μ := ndf rfl
@[simp] theorem fMinD_nil {μ : Mu} {v : PV} : fMinD [.lst []] v μ = .ok v μ := ndf rfl
end GB
set_option Elab.async false
set_option linter.all false
set_option maxRecDepth 100000
set_option maxHeartbeats 2000000
namespace GB
open PySem PySem.Spec PyProof.Rows L2
/-! ### * on ints, tuples, lists -/
def fMulA (x y : PV) (μ : Mu) : R PV := match x, y with
  | .int i, .int j => if mulOk i j then .ok (.int (i * j)) μ else .bad
  | .tup xs, .int k => if !xs.isEmpty && decide (2 ≤ k) && decide (k ≤ 1000) && decide (xs.length ≤ 1000) then .ok (.tup (List.replicate k.toNat xs).flatten) μ else .bad
  | x, .int k => match lstP x μ with
    | some xs => if decide (0 ≤ k) && decide (k ≤ 1000000) && decide (xs.length * k.toNat ≤ 16777216) then .ok (.lst (List.replicate k.toNat xs).flatten) μ else .bad
    | none => .bad
  | _, _ => .bad
section
variable {K : PySem.W.Frag} {ι : Io} {μ : Mu} {H : Hp}
theorem RepL.app : ∀ {xs ys : List PV} {us vs : List V}, RepL K ι H xs us → RepL K ι H ys vs → RepL K ι H (xs ++ ys) (us ++ vs)
  | [], _, us, _, h, h2 => by cases h; exact h2
  | _ :: _, _, _, _, ⟨v, r, e, h1, h2⟩, h3 => by subst e; exact .cons_ h1 (RepL.app h2 h3)
theorem RepL.rep {xs : List PV} {us : List V} (h : RepL K ι H xs us) : ∀ m : Nat, RepL K ι H (List.replicate m xs).flatten (List.replicate m us).flatten
  | 0 => RepL.nil_
  | m + 1 => by
    rw [List.replicate_succ, List.replicate_succ, List.flatten_cons, List.flatten_cons]
    exact RepL.app h (RepL.rep h m)
def rMulA (K : PySem.W.Frag) : R2 := fun x y H Q => rMulG x y H Q ∨ rRepT K x y H Q ∨ rRep x y H Q
theorem op_mulA {X : Cx} : OpR X (binaryOp .Mult) (rMulA X.K) := by
  intro pins s σ H x y v u Q I rx ry h
  rcases h with h | h | h
  · exact op_mulG pins s σ H x y v u Q I rx ry h
  · exact op_repT pins s σ H x y v u Q I rx ry h
  · exact op_rep pins s σ H x y v u Q I rx ry h
theorem ol_mulA : OpL K fMulA (rMulA K) := by
  intro W ι μ H a b x y Q hr ra rb h
  unfold fMulA at h
  split at h
  · cases ra; cases rb
    split at h
    · rename_i i j c
      exact .inl ⟨i, j, rfl, rfl, mulOk_ok c, h.ok hr rfl⟩
    · exact h.elim
  · cases rb
    split at h
    · rename_i xs k c
      simp only [Bool.and_eq_true, Bool.not_eq_true', decide_eq_true_eq] at c
      obtain ⟨⟨⟨c1, c2⟩, c3⟩, c4⟩ := c
      obtain ⟨l, vs, rfl, s, r⟩ := ra
      refine .inr (.inl ⟨l, k, vs, rfl, rfl, s, fun z => ?_, c2, c3, by rw [r.length]; exact c4, fun p hp => ?_⟩)
      · have := r.length
        rw [z] at this
        simp at this
        rw [List.eq_nil_of_length_eq_zero this.symm] at c1
        cases c1
      · have g : Grow K ι H ι (upd H p (.tup (List.replicate k.toNat vs).flatten)) := grow_new hp
        exact h.at_ g (hr.new hp) ⟨p, _, rfl, .of upd_same, (RepL.rep r _).grow g⟩
    · exact h.elim
  · cases rb
    split at h
    · rename_i xs q
      split at h
      · rename_i c
        simp only [Bool.and_eq_true, decide_eq_true_eq] at c
        obtain ⟨⟨c1, c2⟩, c3⟩ := c
        obtain ⟨p, us, rfl, _, i3, i2⟩ := lstP_sq hr ra q
        refine .inr (.inr ⟨p, _, us, rfl, rfl, i2, by omega, by omega, by rw [i3.length]; exact c3, fun p2 hn => ?_⟩)
        exact h.at_ (grow_new hn) (hr.new hn) (new_lst hr hn (RepL.rep i3 _))
      · exact h.elim
    · exact h.elim
  · exact h.elim
end
theorem e_mulA {X : Cx} {W : WS} {a b : Expr} {pos : Pos} {da db : Dn PV} (ha : PE X a (LE X.K W da)) (hb : PE X b (LE X.K W db)) : PE X (.BinOp a .Mult b pos) (LE X.K W (dOp fMulA da db)) := e_op op_mulA ol_mulA ha hb
end GB
set_option Elab.async false
set_option linter.all false
set_option maxRecDepth 100000
set_option maxHeartbeats 2000000
namespace GB
open PySem PySem.Spec PyProof.Rows L2
/-! ### f(k1 = .., k2 = ..): a def of two parameters, called by its second and its first name -/
structure CalK (P : Program) (w : World) (K : PySem.W.Frag) (mg : Str → Option Value) (base : Heap) (x : Str) (lvl : Nat) (k1 k2 : Str) (g : DF) : Prop where
  ex : ∃ (f : Addr) (fd : FuncData) (ps : List Str), mg x = some (.ref f) ∧ PySem.W.keepIn K (.ref f) = true ∧ (∀ (s : Shared) (u v : Value), BindsTo s fd ⟨[], [(k1, u), (k2, v)]⟩ (ps.zip [v, u])) ∧ FnOk P w K mg base CX0 lvl f fd ps (sp0 K 2 g)
theorem FunD.bindsK {K : PySem.W.Frag} {x qual : Str} {params : Arguments} {body : List Stmt} {scope : Scope} {f : Addr} {fd : FuncData} {ps : List Str} {k1 k2 : Str} (F : FunD K x qual params body scope [] [] f fd)
    (h : ∀ (kV doc pm : Value) (an : Option Addr) (cdv ct u v : Value), bindArgs (PySem.W.fnOf x qual params body scope .none kV doc pm an cdv ct) ⟨[], [(k1, u), (k2, v)]⟩ = pure (ps.zip [v, u])) (s : Shared) (u v : Value) : BindsTo s fd ⟨[], [(k1, u), (k2, v)]⟩ (ps.zip [v, u]) := by
  obtain ⟨oc, od, dV, kV, doc, pm, an, cdv, ct, osl, rfl, lk, hcd, hD, hK⟩ := F.ex
  rcases hD with ⟨_, rfl⟩ | ⟨e, _⟩
  · exact .of_eq (h kV doc pm an cdv ct u v)
  · exact absurd rfl e
def dSw (a b : Dn PV) : Dn (List PV) := fun ρ μ => (a ρ μ).bind fun x μ => (b ρ μ).bind fun y μ => .ok [y, x] μ
@[simp] theorem dSw_ {a b : Dn PV} {ρ : Rho} {μ : Mu} : dSw a b ρ μ = (a ρ μ).bind fun x μ => (b ρ μ).bind fun y μ => .ok [y, x] μ := ndf rfl
theorem e_callK {X : Cx} {W : WS} {k : Nat} {g : DF} {x k1 k2 : Str} {p pos p1 p2 : Pos} {e1 e2 : Expr} {d1 d2 : Dn PV} (C : CalK X.prog X.w X.K X.mg X.base x k k1 k2 g) (hr : Room k X.A)
    (h1 : PE X e1 (LE X.K W d1)) (h2 : PE X e2 (LE X.K W d2)) (hg : Gl X x := by rfl) (hdb : (x == ("__debug__" : Str)) = false := by decide)
    (hall : (backToKw pos (keywordEach [⟨some k1, e1, p1⟩, ⟨some k2, e2, p2⟩] X.env)).all (·.1.isSome) = true := by rfl) (hks : (backToKw pos (keywordEach [⟨some k1, e1, p1⟩, ⟨some k2, e2, p2⟩] X.env)).filterMap (·.1) = [k1, k2] := by rfl)
    (hpl : ((backTo pos (starEach [] X.env)).any (·.1) || (backToKw pos (keywordEach [⟨some k1, e1, p1⟩, ⟨some k2, e2, p2⟩] X.env)).any (·.1.isNone)) = false := by rfl) :
    PE X (.Call (.Name x p) [] [⟨some k1, e1, p1⟩, ⟨some k2, e2, p2⟩] pos) (LE X.K W (dCall 2 g (dSw d1 d2))) := by
  obtain ⟨f, fd, ps, hm, hk, hb, F⟩ := C.ex
  refine ⟨fun pins s σ H Q I h => ?_⟩
  obtain ⟨ρ, μ, ι, sr, hr0, h⟩ := h
  refine wpAny_Call_Name_kw (ld_glob I hg hm ?_ hdb)
  refine PySem.W.callWith_KW0 (h₀ := X.base) I.ok.mod.kin hk hall ?_ hpl
  have hkw := pk_cons (nm := some k1) (kpos := p1) h1 (pk_cons (nm := some k2) (kpos := p2) h2 (pk_nil (X := X)))
  have px : Passes CX0 X E0 := pass0
  refine thn (hkw.run pos pins s σ H (fun zs H2 => ∃ z1 z2, zs = [z1, z2] ∧ sp0 X.K 2 g [z2, z1] H2 Q E0) I ?_) fun ws s2 ⟨zs, H2, I2, rz, z1, z2, ez, q2⟩ => ⟨I2.kIn, ?_⟩
  · have ea : dCall 2 g (dSw d1 d2) ρ μ = (d1 ρ μ).bind fun x μ => (d2 ρ μ).bind fun y μ => (g [y, x] μ).nex := by
      unfold dCall dSw
      cases d1 ρ μ with
      | ok a m =>
        simp only [R.bind_ok]
        cases d2 ρ m with
        | ok b m2 => rfl
        | exc _ _ => rfl
        | bad => rfl
      | exc _ _ => rfl
      | bad => rfl
    rw [ea] at h
    refine ⟨ρ, μ, ι, sr, hr0, Post.mono (Post.bind h) ?_⟩
    rintro u H1 ⟨x1, μ1, ι1, g1, hr1, r1, q1⟩
    refine ⟨ρ, μ1, ι1, sr.grow g1, hr1, Post.mono (Post.bind q1) ?_⟩
    rintro v H2 ⟨x2, μ2, ι2, g2, hr2, r2, q2⟩
    refine ⟨u, v, rfl, [x2, x1], μ2, ι2, rfl, .cons_ r2 (.cons_ (r1.grow g2) .nil_), hr2, ?_⟩
    cases z : g [x2, x1] μ2 with
    | ok v μ' => rw [z] at q2; exact q2
    | exc e μ' => rw [z] at q2; exact q2.elim
    | bad => rw [z] at q2; exact q2.elim
  · subst ez
    rw [hks]
    cases rz with
    | cons y1 r1 =>
      cases r1 with
      | cons y2 r2 =>
        cases r2
        rename_i u1 u2 _
        refine wpAny_call (codeAny_mono (F.run X.A X.stack s2 H2 ⟨[], [(k1, u1), (k2, u2)]⟩ [u2, u1] [z2, z1] Q _ hr I2.env0 (hb s2 u1 u2) (.cons y2 (.cons y1 .nil)) q2) fun r s' hq => ?_)
        cases r with
        | error e => exact px pins σ H2 s2 e s' I2 hq
        | ok fl =>
          cases fl with
          | ret u => exact I2.after hq
          | next => exact False.elim hq
          | brk => exact False.elim hq
          | cont => exact False.elim hq
end GB
set_option Elab.async false
set_option linter.all false
set_option maxRecDepth 100000
set_option maxHeartbeats 2000000
namespace GB
open PySem PySem.Spec PyProof.Rows L2
/-! ### equality of plain values -/
mutual
def eqP : PV → PV → Bool
  | .non, .non => true
  | .bl a, .bl b => a == b
  | .int a, .int b => decide (a = b)
  | .str a, .str b => decide (a = b)
  | .tup xs, .tup ys => eqPL xs ys
  | .lst xs, .lst ys => eqPL xs ys
  | _, _ => false
def eqPL : List PV → List PV → Bool
  | [], [] => true
  | x :: xs, y :: ys => eqP x y && eqPL xs ys
  | _, _ => false
end
mutual
theorem eqP_eq : ∀ {x y : PV}, eqP x y = true → x = y
  | .non, y, h => by cases y <;> first | rfl | (simp [eqP] at h)
  | .bl a, y, h => by cases y <;> first | (simp [eqP] at h; rw [h]) | (simp [eqP] at h)
  | .int a, y, h => by cases y <;> first | (simp [eqP] at h; rw [h]) | (simp [eqP] at h)
  | .str a, y, h => by cases y <;> first | (simp [eqP] at h; rw [h]) | (simp [eqP] at h)
  | .tup xs, y, h => by
    cases y with
    | tup ys => rw [eqPL_eq (xs := xs) (ys := ys) (by simpa [eqP] using h)]
    | _ => simp [eqP] at h
  | .lst xs, y, h => by
    cases y with
    | lst ys => rw [eqPL_eq (xs := xs) (ys := ys) (by simpa [eqP] using h)]
    | _ => simp [eqP] at h
  | .scr _, y, h => by cases y <;> simp [eqP] at h
  | .ref _, y, h => by cases y <;> simp [eqP] at h
  | .raw _, y, h => by cases y <;> simp [eqP] at h
theorem eqPL_eq : ∀ {xs ys : List PV}, eqPL xs ys = true → xs = ys
  | [], [], _ => rfl
  | [], _ :: _, h => by simp [eqPL] at h
  | _ :: _, [], h => by simp [eqPL] at h
  | x :: xs, y :: ys, h => by
    simp only [eqPL, Bool.and_eq_true] at h
    rw [eqP_eq h.1, eqPL_eq h.2]
end
mutual
theorem eqP_refl : ∀ {x : PV}, noref x = true → eqP x x = true
  | .non, _ => by simp [eqP]
  | .bl a, _ => by simp [eqP]
  | .int a, _ => by simp [eqP]
  | .str a, _ => by simp [eqP]
  | .tup xs, h => by simp only [eqP]; exact eqPL_refl (xs := xs) h
  | .lst xs, h => by simp only [eqP]; exact eqPL_refl (xs := xs) h
theorem eqPL_refl : ∀ {xs : List PV}, norefL xs = true → eqPL xs xs = true
  | [], _ => by simp [eqPL]
  | x :: xs, h => by
    unfold norefL at h
    rw [Bool.and_eq_true] at h
    simp only [eqPL, eqP_refl h.1, eqPL_refl h.2, Bool.and_self]
end
/-! what they are as data -/
mutual
def dp : PV → PyData
  | .non => .none
  | .bl b => .bool b
  | .int i => .int i
  | .str x => .str x
  | .tup xs => .tuple (dpL xs)
  | .lst xs => .list (dpL xs)
  | _ => .none
def dpL : List PV → List PyData
  | [] => []
  | x :: xs => dp x :: dpL xs
end
mutual
/-- fuel that reads it -/
def fz : PV → Nat
  | .tup xs => fzL xs + 1
  | .lst xs => fzL xs + 1
  | _ => 1
def fzL : List PV → Nat
  | [] => 1
  | x :: xs => max (fz x) (fzL xs) + 1
end
mutual
/-- no text, no truth value, no written list in it -/
def noB : PV → Bool
  | .non | .int _ => true
  | .tup xs => noBL xs
  | .lst xs => noBL xs
  | _ => false
def noBL : List PV → Bool
  | [] => true
  | x :: xs => noB x && noBL xs
end
mutual
/-- no text, no written list in it -/
def noS : PV → Bool
  | .non | .int _ | .bl _ => true
  | .tup xs => noSL xs
  | .lst xs => noSL xs
  | _ => false
def noSL : List PV → Bool
  | [] => true
  | x :: xs => noS x && noSL xs
end
mutual
def dep : PV → Nat
  | .tup xs => depL xs + 1
  | .lst xs => depL xs + 1
  | _ => 0
def depL : List PV → Nat
  | [] => 0
  | x :: xs => max (dep x) (depL xs)
end
mutual
theorem toD_dp2 {μ : Mu} : ∀ {x : PV} {n : Nat}, noS x = true → fz x ≤ n → toD μ n x = some (dp x)
  | x, 0, _, h => by cases x <;> simp [fz] at h
  | .non, n + 1, _, _ => rfl
  | .bl _, n + 1, _, _ => rfl
  | .int _, n + 1, _, _ => rfl
  | .tup xs, n + 1, h, hf => by
    simp only [toD, dp]
    rw [toDL_dp2 (xs := xs) (n := n) h (by simp only [fz] at hf; omega)]; rfl
  | .lst xs, n + 1, h, hf => by
    simp only [toD, dp]
    rw [toDL_dp2 (xs := xs) (n := n) h (by simp only [fz] at hf; omega)]; rfl
theorem toDL_dp2 {μ : Mu} : ∀ {xs : List PV} {n : Nat}, noSL xs = true → fzL xs ≤ n → toDL μ n xs = some (dpL xs)
  | [], 0, _, h => by simp [fzL] at h
  | _ :: _, 0, _, h => by simp [fzL] at h
  | [], n + 1, _, _ => rfl
  | x :: xs, n + 1, h, hf => by
    unfold noSL at h
    rw [Bool.and_eq_true] at h
    simp only [fzL] at hf
    simp only [toDL, dpL]
    rw [toD_dp2 h.1 (by omega), toDL_dp2 h.2 (by omega)]; rfl
end
mutual
theorem dp_lay : ∀ {x : PV}, noS x = true → PyData.canLay0 (dp x) = true ∧ PyData.depth (dp x) = dep x
  | .non, _ => by simp [dp, PyData.canLay0, PyData.depth, dep]
  | .bl _, _ => by simp [dp, PyData.canLay0, PyData.depth, dep]
  | .int _, _ => by simp [dp, PyData.canLay0, PyData.depth, dep]
  | .tup xs, h => by
    have := dpL_lay (xs := xs) h
    simp [dp, PyData.canLay0, PyData.depth, dep, this]
  | .lst xs, h => by
    have := dpL_lay (xs := xs) h
    simp [dp, PyData.canLay0, PyData.depth, dep, this]
theorem dpL_lay : ∀ {xs : List PV}, noSL xs = true → PyData.canLayAll0 (dpL xs) = true ∧ PyData.depthAll (dpL xs) = depL xs
  | [], _ => by simp [dpL, PyData.canLayAll0, PyData.depthAll, depL]
  | x :: xs, h => by
    unfold noSL at h
    rw [Bool.and_eq_true] at h
    have h1 := dp_lay h.1
    have h2 := dpL_lay h.2
    simp [dpL, PyData.canLayAll0, PyData.depthAll, depL, h1, h2]
end
mutual
theorem eqv_noB : ∀ {x y : PV}, noB x = true → noB y = true → PyData.eqv (dp x) (dp y) = eqP x y
  | .non, y, _, h => by cases y <;> simp_all [noB, dp, eqP, PyData.eqv]
  | .int a, y, _, h => by
    cases y with
    | int b => simp only [dp, eqP]; exact eqv_int a b
    | _ => simp_all [noB, dp, eqP, PyData.eqv]
  | .tup xs, y, hx, h => by
    cases y with
    | tup ys => simp only [dp, eqP, PyData.eqv]; exact eqvL_noB (xs := xs) (ys := ys) hx h
    | lst ys => simp [dp, eqP, PyData.eqv]
    | non => simp [dp, eqP, PyData.eqv]
    | int _ => simp [dp, eqP, PyData.eqv]
    | _ => simp [noB] at h
  | .lst xs, y, hx, h => by
    cases y with
    | lst ys => simp only [dp, eqP, PyData.eqv]; exact eqvL_noB (xs := xs) (ys := ys) hx h
    | tup ys => simp [dp, eqP, PyData.eqv]
    | non => simp [dp, eqP, PyData.eqv]
    | int _ => simp [dp, eqP, PyData.eqv]
    | _ => simp [noB] at h
theorem eqvL_noB : ∀ {xs ys : List PV}, noBL xs = true → noBL ys = true → PyData.eqvAll (dpL xs) (dpL ys) = eqPL xs ys
  | [], [], _, _ => by simp [dpL, eqPL, PyData.eqvAll]
  | [], _ :: _, _, _ => by simp [dpL, eqPL, PyData.eqvAll]
  | _ :: _, [], _, _ => by simp [dpL, eqPL, PyData.eqvAll]
  | x :: xs, y :: ys, h1, h2 => by
    unfold noBL at h1 h2
    rw [Bool.and_eq_true] at h1 h2
    simp only [dpL, eqPL, PyData.eqvAll, eqv_noB h1.1 h2.1, eqvL_noB h1.2 h2.2]
end
mutual
theorem noB_S : ∀ {x : PV}, noB x = true → noS x = true
  | .non, _ | .int _, _ => rfl
  | .tup xs, h => noB_SL (xs := xs) h
  | .lst xs, h => noB_SL (xs := xs) h
theorem noB_SL : ∀ {xs : List PV}, noBL xs = true → noSL xs = true
  | [], _ => rfl
  | x :: xs, h => by
    unfold noBL at h
    unfold noSL
    rw [Bool.and_eq_true] at h ⊢
    exact ⟨noB_S h.1, noB_SL h.2⟩
end
/-- small enough to be compared -/
def cmpOk (x : PV) : Prop := fz x ≤ 1000 ∧ dep x ≤ 64
theorem shaped_dp {x : PV} (h : noS x = true) (hd : dep x ≤ 64) : SeqAt.shaped (dp x) = true := by
  obtain ⟨h1, h2⟩ := dp_lay h
  unfold SeqAt.shaped
  rw [h1, h2, Bool.true_and, decide_eq_true_eq]
  exact hd
theorem eqB_dp {x y : PV} {μ : Mu} (hx : noS x = true) (hy : noS y = true) (cx : cmpOk x) (cy : cmpOk y) : eqB x y μ = some (PyData.eqv (dp x) (dp y)) := by
  have gen : (match toD μ 1000 x, toD μ 1000 y with
    | some d, some e => if SeqAt.shaped d && SeqAt.shaped e then some (PyData.eqv d e) else none
    | _, _ => none) = some (PyData.eqv (dp x) (dp y)) := by
    rw [toD_dp2 hx cx.1, toD_dp2 hy cy.1]
    simp only [shaped_dp hx cx.2, shaped_dp hy cy.2, Bool.and_self, if_true]
  unfold eqB
  split
  · simp only [dp, eqv_int]
  · simp [dp, PyData.eqv]
  · simp [dp, PyData.eqv]
  · simp [dp, PyData.eqv]
  · simp [dp, PyData.eqv]
  · exact gen
theorem fEq_noB {x y : PV} {μ : Mu} (hx : noB x = true) (hy : noB y = true) (cx : cmpOk x) (cy : cmpOk y) : fEq x y μ = .ok (.bl (eqP x y)) μ := by
  unfold fEq
  rw [eqB_dp (noB_S hx) (noB_S hy) cx cy, eqv_noB hx hy]
theorem fNe_noB {x y : PV} {μ : Mu} (hx : noB x = true) (hy : noB y = true) (cx : cmpOk x) (cy : cmpOk y) : fNe x y μ = .ok (.bl (!eqP x y)) μ := by
  unfold fNe
  rw [eqB_dp (noB_S hx) (noB_S hy) cx cy, eqv_noB hx hy]
theorem fEq_self {x : PV} {μ : Mu} (hx : noS x = true) (cx : cmpOk x) : fEq x x μ = .ok (.bl true) μ := by
  unfold fEq
  rw [eqB_dp hx hx cx cx, SeqAt.eqv_refl _ (dp_lay hx).1]
theorem fNe_self {x : PV} {μ : Mu} (hx : noS x = true) (cx : cmpOk x) : fNe x x μ = .ok (.bl false) μ := by
  unfold fNe
  rw [eqB_dp hx hx cx cx, SeqAt.eqv_refl _ (dp_lay hx).1]; rfl
/-- rows of small things -/
theorem fzL_le {k : Nat} : ∀ {xs : List PV}, (∀ x ∈ xs, fz x ≤ k) → fzL xs ≤ k + xs.length + 1
  | [], _ => by simp [fzL]
  | x :: xs, h => by
    have h1 := h x List.mem_cons_self
    have h2 := fzL_le (xs := xs) (k := k) fun y hy => h y (List.mem_cons_of_mem _ hy)
    simp only [fzL, List.length_cons]
    omega
theorem depL_le {k : Nat} : ∀ {xs : List PV}, (∀ x ∈ xs, dep x ≤ k) → depL xs ≤ k
  | [], _ => by simp [depL]
  | x :: xs, h => by
    have h1 := h x List.mem_cons_self
    have h2 := depL_le (xs := xs) (k := k) fun y hy => h y (List.mem_cons_of_mem _ hy)
    simp only [depL]
    omega
theorem noBL_of : ∀ {xs : List PV}, (∀ x ∈ xs, noB x = true) → noBL xs = true
  | [], _ => rfl
  | x :: xs, h => by
    unfold noBL
    rw [h x List.mem_cons_self, noBL_of fun y hy => h y (List.mem_cons_of_mem _ hy)]; rfl
theorem noSL_of : ∀ {xs : List PV}, (∀ x ∈ xs, noS x = true) → noSL xs = true
  | [], _ => rfl
  | x :: xs, h => by
    unfold noSL
    rw [h x List.mem_cons_self, noSL_of fun y hy => h y (List.mem_cons_of_mem _ hy)]; rfl
theorem norefL_of : ∀ {xs : List PV}, (∀ x ∈ xs, noref x = true) → norefL xs = true
  | [], _ => rfl
  | x :: xs, h => by
    unfold norefL
    rw [h x List.mem_cons_self, norefL_of fun y hy => h y (List.mem_cons_of_mem _ hy)]; rfl
theorem flatL_of : ∀ {xs : List PV}, (∀ x ∈ xs, flat x = true) → flatL xs = true
  | [], _ => rfl
  | x :: xs, h => by
    unfold flatL
    rw [h x List.mem_cons_self, flatL_of fun y hy => h y (List.mem_cons_of_mem _ hy)]; rfl
theorem norefL_map {α : Type} {f : α → PV} {ks : List α} (h : ∀ k, noref (f k) = true) : norefL (ks.map f) = true := norefL_of fun x hx => by
  obtain ⟨k, _, rfl⟩ := List.mem_map.mp hx
  exact h k
theorem norefL_mapI {α : Type} {f : Nat → α → PV} {ks : List α} (h : ∀ i k, noref (f i k) = true) : norefL (ks.mapIdx f) = true := norefL_of fun x hx => by
  obtain ⟨i, h2, rfl⟩ := List.mem_mapIdx.mp hx
  exact h i _
theorem flatL_map {α : Type} {f : α → PV} {ks : List α} (h : ∀ k, flat (f k) = true) : flatL (ks.map f) = true := flatL_of fun x hx => by
  obtain ⟨k, _, rfl⟩ := List.mem_map.mp hx
  exact h k
theorem noBL_map {α : Type} {f : α → PV} {ks : List α} (h : ∀ k, noB (f k) = true) : noBL (ks.map f) = true := noBL_of fun x hx => by
  obtain ⟨k, _, rfl⟩ := List.mem_map.mp hx
  exact h k
theorem noSL_map {α : Type} {f : α → PV} {ks : List α} (h : ∀ k, noS (f k) = true) : noSL (ks.map f) = true := noSL_of fun x hx => by
  obtain ⟨k, _, rfl⟩ := List.mem_map.mp hx
  exact h k
/-! the law's own comparison: what two equal things of such a shape are told -/
mutual
def smp : Nat → PV → Bool
  | 0, _ => false
  | _ + 1, .non => true
  | _ + 1, .bl _ => true
  | _ + 1, .int _ => true
  | n + 1, .tup xs => decide (xs.length < 1000000) && smpL n xs
  | n + 1, .lst xs => decide (xs.length < 1000000) && smpL n xs
  | _ + 1, _ => false
def smpL : Nat → List PV → Bool
  | _, [] => true
  | n, x :: xs => smp n x && smpL n xs
end
theorem smpL_mem {n : Nat} : ∀ {xs : List PV}, smpL n xs = true → ∀ x ∈ xs, smp n x = true
  | [], _, x, hx => by simp at hx
  | y :: ys, h, x, hx => by
    simp only [smpL, Bool.and_eq_true] at h
    rcases List.mem_cons.mp hx with rfl | hx
    · exact h.1
    · exact smpL_mem h.2 x hx
theorem smpL_of {n : Nat} : ∀ {xs : List PV}, (∀ x ∈ xs, smp n x = true) → smpL n xs = true
  | [], _ => by simp [smpL]
  | x :: xs, h => by
    simp only [smpL, h x List.mem_cons_self, smpL_of fun y hy => h y (List.mem_cons_of_mem _ hy), Bool.and_self]
def sameF (as : List PV) : Option PV := match as with
  | [x, y] => if eqP x y && smp 6 x then some (.bl true) else none
  | _ => none
theorem zipI_self (xs : List PV) : zipI xs xs = xs.map fun x => .tup [x, x] := by
  unfold zipI
  induction xs with
  | nil => rfl
  | cons x xs ih => rw [List.zipWith_cons_cons, ih]; rfl
theorem allB_true {α : Type} : ∀ xs : List α, allB (xs.map fun _ => PV.bl true) = some (xs.map fun _ => true)
  | [] => rfl
  | n :: r => by rw [List.map_cons]; unfold allB; rw [allB_true r]; rfl
theorem all_true {α : Type} (xs : List α) : (xs.map fun _ => true).all id = true := by simp
theorem fAll_true {α : Type} {xs : List α} {μ : Mu} : fAll [.lst (xs.map fun _ => PV.bl true)] μ = .ok (.bl true) μ := by
  rw [fAll_lst (allB_true xs), all_true]
theorem fEq_non {μ : Mu} : fEq .non .non μ = .ok (.bl true) μ := rfl
end GB
set_option Elab.async false
set_option linter.all false
set_option maxRecDepth 100000
set_option maxHeartbeats 2000000
namespace GB
open PySem PySem.Spec PyProof.Rows L2
theorem _root_.L2.Room.units65 {k : Nat} {A : Around} (r : Room k A) : A.units + 65 < cLine := by have := r.un; omega
/-! ### in and not in: ranges, lists -/
section
variable {X : Cx} {pins : List (Addr × Obj)}
theorem cr_range1 : CallR X (.type "range") (fun vs H Q => ∃ j, vs = [V.int j] ∧ ∀ p, H p = none → Q (.ref p) (upd H p (.rng 0 j))) := by
  intro pins s σ H vs us Q I r h
  obtain ⟨j, rfl, q⟩ := h
  obtain ⟨u1, rfl, rj⟩ := vals1 r
  obtain ⟨t, rfl⟩ := rj
  refine call_range_1 ⟨.ref s.heap.objs.size, upd H s.heap.objs.size (.rng 0 j), I.laid (t' := s.toks + 1 + 1) (fun b o e => Heap.get?_push_of_some _ e) (Nat.le_refl _) ?_, rfl, q _ (I.hok.fresh (Nat.le_refl _))⟩
  exact ⟨s.toks, t, s.toks + 1, Heap.get?_push_size _ rfl⟩
theorem op_notin_rng : OpR X (compareOp .NotIn) (fun x y H Q => ∃ i a lo hi, x = V.int i ∧ y = V.ref a ∧ H a = some (.rng lo hi) ∧ Q (.bl (!decide (lo ≤ i ∧ i < hi))) H) := by
  intro pins s σ H x y v u Q I rx ry h
  obtain ⟨i, a, lo, hi, rfl, rfl, ha, q⟩ := h
  obtain ⟨k, rfl⟩ := rx
  obtain rfl : u = Value.ref a := ry
  obtain ⟨t1, t2, t3, ho⟩ := I.hok a _ ha
  show wpAny _ _ (do return Value.bool (!(← contains (Value.ref a) (Value.int i k)))) _ _ s
  refine wpAny_bind (wpAny_contains_slot (T := "range") ⟨_, ho, rfl⟩ F.slot_range_contains (call_meets F.slot_range_contains ⟨_, ho, rfl⟩ F.entry_range_contains (F.args_range_contains_2 _ _) (q_contains a lo hi i t1 t2 t3 k)
    ⟨ho, wpAny_truthy_bool (wpAny_pure ⟨.bl _, H, I, rfl, ?_⟩)⟩))
  rw [place1]
  exact q
def rngA (xs : List PV) : Option (Int × Int) := match xs with
  | [.int j] => some (0, j)
  | [.int i, .int j] => some (i, j)
  | _ => none
def inRng (neg : Bool) (x : PV) (xs : List PV) (μ : Mu) : R PV := match x, rngA xs with
  | .int i, some (lo, hi) => .ok (.bl (if neg then !decide (lo ≤ i ∧ i < hi) else decide (lo ≤ i ∧ i < hi))) μ
  | _, _ => .bad
/-- x in range(..) -/
def dInR (neg : Bool) (a : Dn PV) (l : Dn (List PV)) : Dn PV := fun ρ μ => (a ρ μ).bind fun x μ => (l ρ μ).bind fun xs μ => inRng neg x xs μ
def rRngG : List V → Hp → VK → Prop := fun vs H Q => (∃ i j, vs = [V.int i, V.int j] ∧ ∀ p, H p = none → Q (.ref p) (upd H p (.rng i j))) ∨ (∃ j, vs = [V.int j] ∧ ∀ p, H p = none → Q (.ref p) (upd H p (.rng 0 j)))
theorem cr_rangeG : CallR X (.type "range") rRngG := cr_range2.or cr_range1
theorem inR_ok {K : PySem.W.Frag} {W : WS} {neg : Bool} {da : Dn PV} {dl : Dn (List PV)} {σ : L2.St} {H : Hp} {Q : VK} {r : R2}
    (hr : ∀ (i lo hi : Int) (a : Addr) (H : Hp) (Q : VK), H a = some (.rng lo hi) → Q (.bl (if neg then !decide (lo ≤ i ∧ i < hi) else decide (lo ≤ i ∧ i < hi))) H → r (.int i) (.ref a) H Q)
    (h : LE K W (dInR neg da dl) σ H Q) : tOp r (LE K W da) (tCB rRngG (LA K W dl)) σ H Q := by
  obtain ⟨ρ, μ, ι, sr, hr0, h⟩ := h
  refine ⟨ρ, μ, ι, sr, hr0, Post.mono (Post.bind h) ?_⟩
  rintro v H1 ⟨x, μ1, ι1, g1, hr1, r1, h1⟩
  refine ⟨ρ, μ1, ι1, sr.grow g1, hr1, Post.mono (Post.bind h1) ?_⟩
  rintro vs H2 ⟨xs, μ2, ι2, g2, hr2, r2, h2⟩
  unfold inRng at h2
  split at h2
  · rename_i i lo hi e
    cases r1
    unfold rngA at e
    split at e
    · cases e
      obtain ⟨u, rfl, q⟩ := one_rep r2
      cases q
      refine .inr ⟨_, rfl, fun p hp => hr _ _ _ _ _ _ upd_same ?_⟩
      exact h2.at_ (grow_new hp) (hr2.new hp) rfl
    · cases e
      obtain ⟨u, w, rfl, q, q2⟩ := two_rep r2
      cases q; cases q2
      refine .inl ⟨_, _, rfl, fun p hp => hr _ _ _ _ _ _ upd_same ?_⟩
      exact h2.at_ (grow_new hp) (hr2.new hp) rfl
    · cases e
  · exact h2.elim
section
variable {W : WS} {a e : Expr} {es : List Expr} {da : Dn PV} {dl : Dn (List PV)} {pos p cpos : Pos}
theorem e_inR (hm : X.mg "range" = none) (ha : PE X a (LE X.K W da)) (hl : PA X (e :: es) (LA X.K W dl)) (hg : Gl X "range" := by rfl) (he : starEach (e :: es) X.env = (false, eval e X.env) :: starEach es X.env := by rfl) (hpl : (backTo cpos (starEach es X.env)).any (·.1) = false := by rfl) :
    PE X (.Compare a [.In] [.Call (.Name "range" p) (e :: es) [] cpos] pos) (LE X.K W (dInR false da dl)) :=
  (pe_cmpR op_in_rng ha (pe_callTy cr_rangeG hg hm (by decide +kernel) hl (by decide) (by decide) he hpl) (by rfl)).mono fun σ H Q h => inR_ok (neg := false) (fun i lo hi a H Q h1 h2 => ⟨i, a, lo, hi, rfl, rfl, h1, h2⟩) h
theorem e_ninR (hm : X.mg "range" = none) (ha : PE X a (LE X.K W da)) (hl : PA X (e :: es) (LA X.K W dl)) (hg : Gl X "range" := by rfl) (he : starEach (e :: es) X.env = (false, eval e X.env) :: starEach es X.env := by rfl) (hpl : (backTo cpos (starEach es X.env)).any (·.1) = false := by rfl) :
    PE X (.Compare a [.NotIn] [.Call (.Name "range" p) (e :: es) [] cpos] pos) (LE X.K W (dInR true da dl)) :=
  (pe_cmpR op_notin_rng ha (pe_callTy cr_rangeG hg hm (by decide +kernel) hl (by decide) (by decide) he hpl) (by rfl)).mono fun σ H Q h => inR_ok (neg := true) (fun i lo hi a H Q h1 h2 => ⟨i, a, lo, hi, rfl, rfl, h1, h2⟩) h
theorem t_inR (hm : X.mg "range" = none) (ha : PE X a (LE X.K W da)) (hl : PA X (e :: es) (LA X.K W dl)) (hg : Gl X "range" := by rfl) (he : starEach (e :: es) X.env = (false, eval e X.env) :: starEach es X.env := by rfl) (hpl : (backTo cpos (starEach es X.env)).any (·.1) = false := by rfl) :
    PT X (.Compare a [.In] [.Call (.Name "range" p) (e :: es) [] cpos] pos) (LT X.K W (asB (dInR false da dl))) :=
  (pt_cmpR op_in_rng ha (pe_callTy cr_rangeG hg hm (by decide +kernel) hl (by decide) (by decide) he hpl) (by rfl)).mono fun σ H Q ⟨ρ, μ, ι, sr, hr, h⟩ => inR_ok (neg := false) (fun i lo hi a H Q h1 h2 => ⟨i, a, lo, hi, rfl, rfl, h1, h2⟩) ⟨ρ, μ, ι, sr, hr, asB_bind h⟩
theorem t_ninR (hm : X.mg "range" = none) (ha : PE X a (LE X.K W da)) (hl : PA X (e :: es) (LA X.K W dl)) (hg : Gl X "range" := by rfl) (he : starEach (e :: es) X.env = (false, eval e X.env) :: starEach es X.env := by rfl) (hpl : (backTo cpos (starEach es X.env)).any (·.1) = false := by rfl) :
    PT X (.Compare a [.NotIn] [.Call (.Name "range" p) (e :: es) [] cpos] pos) (LT X.K W (asB (dInR true da dl))) :=
  (pt_cmpR op_notin_rng ha (pe_callTy cr_rangeG hg hm (by decide +kernel) hl (by decide) (by decide) he hpl) (by rfl)).mono fun σ H Q ⟨ρ, μ, ι, sr, hr, h⟩ => inR_ok (neg := true) (fun i lo hi a H Q h1 h2 => ⟨i, a, lo, hi, rfl, rfl, h1, h2⟩) ⟨ρ, μ, ι, sr, hr, asB_bind h⟩
end
@[simp] theorem dInR_ {neg : Bool} {a : Dn PV} {l : Dn (List PV)} {ρ : Rho} {μ : Mu} : dInR neg a l ρ μ = (a ρ μ).bind fun x μ => (l ρ μ).bind fun xs μ => inRng neg x xs μ := ndf rfl
@[simp] theorem inRng1 {neg : Bool} {i j : Int} {μ : Mu} : inRng neg (.int i) [.int j] μ = .ok (.bl (if neg then !decide (0 ≤ i ∧ i < j) else decide (0 ≤ i ∧ i < j))) μ := ndf rfl
@[simp] theorem inRng2 {neg : Bool} {i j k : Int} {μ : Mu} : inRng neg (.int i) [.int k, .int j] μ = .ok (.bl (if neg then !decide (k ≤ i ∧ i < j) else decide (k ≤ i ∧ i < j))) μ := ndf rfl
/-! a list of data -/
def anyD (x : PV) (y : PV) (μ : Mu) : Option Bool := match toD μ 1000 x, toD μ 1000 y with
  | some d, some (.list ds) => if SeqAt.shaped d && SeqAt.shaped (.list ds) then some (ds.any fun z => PyData.eqv z d) else none
  | _, _ => none
def fIn (x y : PV) (μ : Mu) : R PV := match anyD x y μ with
  | some k => .ok (.bl k) μ
  | none => .bad
def fNin (x y : PV) (μ : Mu) : R PV := match anyD x y μ with
  | some k => .ok (.bl (!k)) μ
  | none => .bad
variable {K : PySem.W.Frag}
theorem anyD_ok {ι : Io} {μ : Mu} {H : Hp} {a b : PV} {x y : V} {k : Bool} (hr : HR K ι μ H) (ra : Rep K ι H a x) (rb : Rep K ι H b y) (e : anyD a b μ = some k) :
    ∃ d ds, Dp K H x d ∧ Dp K H y (.list ds) ∧ SeqAt.shaped d = true ∧ SeqAt.shaped (.list ds) = true ∧ k = ds.any fun z => PyData.eqv z d := by
  unfold anyD at e
  split at e
  · rename_i d ds q1 q2
    split at e
    · rename_i c
      rw [Bool.and_eq_true] at c
      cases e
      exact ⟨d, ds, toD_dp hr _ _ _ _ q1 ra, toD_dp hr _ _ _ _ q2 rb, c.1, c.2, rfl⟩
    · cases e
  · cases e
theorem ol_in : OpL K fIn (rInD K) := by
  intro W ι μ H a b x y Q hr ra rb h
  unfold fIn at h
  cases e : anyD a b μ with
  | none => rw [e] at h; exact h.elim
  | some k =>
    rw [e] at h
    obtain ⟨d, ds, h1, h2, h3, h4, rfl⟩ := anyD_ok hr ra rb e
    exact ⟨d, ds, h1, h2, h3, h4, h.ok hr rfl⟩
theorem ol_nin : OpL K fNin (rNotInD K) := by
  intro W ι μ H a b x y Q hr ra rb h
  unfold fNin at h
  cases e : anyD a b μ with
  | none => rw [e] at h; exact h.elim
  | some k =>
    rw [e] at h
    obtain ⟨d, ds, h1, h2, h3, h4, rfl⟩ := anyD_ok hr ra rb e
    exact ⟨d, ds, h1, h2, h3, h4, h.ok hr rfl⟩
section
variable {W : WS} {a b : Expr} {da db : Dn PV} {pos : Pos}
theorem e_in (hu : X.A.units + 65 < cLine) (ha : PE X a (LE X.K W da)) (hb : PE X b (LE X.K W db)) (hm : behindInMarks .In b = false := by rfl) : PE X (.Compare a [.In] [b] pos) (LE X.K W (dOp fIn da db)) := e_cmp (op_inD hu) ol_in ha hb hm
theorem e_nin (hu : X.A.units + 65 < cLine) (ha : PE X a (LE X.K W da)) (hb : PE X b (LE X.K W db)) (hm : behindInMarks .NotIn b = false := by rfl) : PE X (.Compare a [.NotIn] [b] pos) (LE X.K W (dOp fNin da db)) := e_cmp (op_notInD hu) ol_nin ha hb hm
theorem t_in (hu : X.A.units + 65 < cLine) (ha : PE X a (LE X.K W da)) (hb : PE X b (LE X.K W db)) (hm : behindInMarks .In b = false := by rfl) : PT X (.Compare a [.In] [b] pos) (LT X.K W (asB (dOp fIn da db))) := t_cmp (op_inD hu) ol_in ha hb hm
theorem t_nin (hu : X.A.units + 65 < cLine) (ha : PE X a (LE X.K W da)) (hb : PE X b (LE X.K W db)) (hm : behindInMarks .NotIn b = false := by rfl) : PT X (.Compare a [.NotIn] [b] pos) (LT X.K W (asB (dOp fNin da db))) := t_cmp (op_notInD hu) ol_nin ha hb hm
end
end
theorem anyD_noB {x : PV} {ys : List PV} {μ : Mu} (hx : noB x = true) (hy : noBL ys = true) (cx : cmpOk x) (cy : cmpOk (.lst ys)) : anyD x (.lst ys) μ = some (ys.any fun z => eqP z x) := by
  have hl : noS (.lst ys) = true := noB_SL hy
  have e : ∀ zs : List PV, noBL zs = true → ((dpL zs).any fun z => PyData.eqv z (dp x)) = zs.any fun z => eqP z x := by
    intro zs
    induction zs with
    | nil => intro _; rfl
    | cons z zs ih =>
      intro h
      unfold noBL at h
      rw [Bool.and_eq_true] at h
      simp only [dpL, List.any_cons, eqv_noB h.1 hx, ih h.2]
  unfold anyD
  rw [toD_dp2 (noB_S hx) cx.1, toD_dp2 hl cy.1]
  have h2 := shaped_dp hl cy.2
  simp only [dp] at h2 ⊢
  simp only [shaped_dp (noB_S hx) cx.2, h2, Bool.and_self, if_true, e ys hy]
end GB
set_option Elab.async false
set_option linter.all false
set_option maxRecDepth 100000
set_option maxHeartbeats 2000000
namespace GB
open PySem L2
/-! ### objects told one by one (for simp) -/
section
variable {o0 o1 o2 o3 o4 : Ob} {x : List PV} {r : Mu} {μ : Mu} {l : Nat} {i : Int}
@[simp] theorem getL_c0 : getL (Ob.lst x :: r) 0 = some x := rfl
@[simp] theorem getL_c1 : getL (o0 :: Ob.lst x :: r) 1 = some x := rfl
@[simp] theorem getL_c2 : getL (o0 :: o1 :: Ob.lst x :: r) 2 = some x := rfl
@[simp] theorem getL_c3 : getL (o0 :: o1 :: o2 :: Ob.lst x :: r) 3 = some x := rfl
@[simp] theorem getL_c4 : getL (o0 :: o1 :: o2 :: o3 :: Ob.lst x :: r) 4 = some x := rfl
@[simp] theorem getL_c5 : getL (o0 :: o1 :: o2 :: o3 :: o4 :: Ob.lst x :: r) 5 = some x := rfl
def apO (o : Option (List PV)) (l : Nat) (y : PV) (μ : Mu) : R PV := match o with
  | some xs => if xs.length < 16777216 then .ok .non (μ.set l (.lst (xs ++ [y]))) else .bad
  | none => .bad
theorem fAppend_ {y : PV} : fAppend (.ref l) [y] μ = apO (getL μ l) l y μ := rfl
@[simp] theorem apO_ {xs : List PV} {y : PV} : apO (some xs) l y μ = if xs.length < 16777216 then .ok .non (μ.set l (.lst (xs ++ [y]))) else .bad := rfl
def meO (o : Option (List PV)) (r : R PV) : R PV := match o with
  | some _ => r
  | none => .bad
theorem methL_ {r : R PV} : methL (.ref l) μ r = meO (getL μ l) r := rfl
@[simp] theorem meO_ {xs : List PV} {r : R PV} : meO (some xs) r = r := rfl
@[simp] theorem lstP_ref : lstP (.ref l) μ = getL μ l := rfl
@[simp] theorem lstP_lst {xs : List PV} : lstP (.lst xs) μ = some xs := rfl
def adO (a b : Option (List PV)) (μ : Mu) : R PV := match a, b with
  | some a, some b => if a.length + b.length ≤ 16777216 then .ok (.lst (a ++ b)) μ else .bad
  | _, _ => .bad
def adTO (a b : Option (List PV)) (μ : Mu) : R PV := match a, b with
  | some a, some b => if a.length + b.length ≤ 16777216 then .ok (.ref μ.length) (μ ++ [.lst (a ++ b)]) else .bad
  | _, _ => .bad
@[simp] theorem adO_ {a b : List PV} : adO (some a) (some b) μ = if a.length + b.length ≤ 16777216 then .ok (.lst (a ++ b)) μ else .bad := rfl
@[simp] theorem adTO_ {a b : List PV} : adTO (some a) (some b) μ = if a.length + b.length ≤ 16777216 then .ok (.ref μ.length) (μ ++ [.lst (a ++ b)]) else .bad := rfl
theorem fAddT_ {x y : PV} : fAddT x y μ = adTO (lstP x μ) (lstP y μ) μ := rfl
theorem fAdd_rl {y : PV} : fAdd (.ref l) y μ = adO (lstP (.ref l) μ) (lstP y μ) μ := by cases y <;> rfl
theorem fAdd_lr {xs : List PV} {y : PV} : fAdd (.lst xs) y μ = adO (lstP (.lst xs) μ) (lstP y μ) μ := by cases y <;> rfl
def lnO (o : Option (List PV)) (μ : Mu) : R PV := match o with
  | some ys => .ok (.int ys.length) μ
  | none => .bad
@[simp] theorem lnO_ {xs : List PV} : lnO (some xs) μ = .ok (.int xs.length) μ := rfl
theorem fLen_r : fLen [.ref l] μ = lnO (getL μ l) μ := rfl
def ixO (o : Option PV) (μ : Mu) : R PV := match o with
  | some v => .ok v μ
  | none => .bad
@[simp] theorem ixO_ {v : PV} : ixO (some v) μ = .ok v μ := rfl
theorem fIx_l {xs : List PV} : fIx (.lst xs) (.int i) μ = ixO (atI xs i) μ := rfl
theorem fIx_t {xs : List PV} : fIx (.tup xs) (.int i) μ = ixO (atI xs i) μ := rfl
theorem fIx_r : fIx (.ref l) (.int i) μ = ixO ((getL μ l).bind fun xs => atI xs i) μ := rfl
theorem fTuple_r : fTuple [.ref l] μ = (match getL μ l with | some ys => .ok (.tup ys) μ | none => .bad) := rfl
theorem fList_r : fList [.ref l] μ = (match getL μ l with | some ys => .ok (.lst ys) μ | none => .bad) := rfl
/-- an item of a row told by its places -/
theorem atI_map {α : Type} {f : Nat → α} {n k : Nat} {j : Int} (hj : j = (k : Int)) (h : k < n) : atI ((List.range n).map f) j = some (f k) := by
  subst hj
  exact atI_k (by rw [List.getElem?_map, List.getElem?_range h]; rfl)
theorem atI_last' {α : Type} {f : Nat → α} {n : Nat} (h : 0 < n) : atI ((List.range n).map f) (-1) = some (f (n - 1)) := by
  obtain ⟨m, rfl⟩ : ∃ m, n = m + 1 := ⟨n - 1, by omega⟩
  rw [List.range_succ, List.map_append]
  exact atI_last _ _
end
theorem fNe_nil {xs : List PV} {μ : Mu} (h : noBL xs = true) (c : cmpOk (.lst xs)) : fNe (.lst xs) (.lst []) μ = .ok (.bl (!xs.isEmpty)) μ := by
  rw [fNe_noB (x := .lst xs) (y := .lst []) h rfl c ⟨by simp [fz, fzL], by simp [dep, depL]⟩]
  cases xs <;> rfl
theorem fEq_nil {xs : List PV} {μ : Mu} (h : noBL xs = true) (c : cmpOk (.lst xs)) : fEq (.lst xs) (.lst []) μ = .ok (.bl xs.isEmpty) μ := by
  rw [fEq_noB (x := .lst xs) (y := .lst []) h rfl c ⟨by simp [fz, fzL], by simp [dep, depL]⟩]
  cases xs <;> rfl
theorem cmp_lst {k d : Nat} {xs : List PV} (h : ∀ x ∈ xs, fz x ≤ k ∧ dep x ≤ d) (hl : k + xs.length + 2 ≤ 1000) (hd : d + 1 ≤ 64) : cmpOk (.lst xs) := by
  have h1 := fzL_le fun x hx => (h x hx).1
  have h2 := depL_le fun x hx => (h x hx).2
  exact ⟨by simp only [fz]; omega, by simp only [dep]; omega⟩
theorem cmp_tup {k d : Nat} {xs : List PV} (h : ∀ x ∈ xs, fz x ≤ k ∧ dep x ≤ d) (hl : k + xs.length + 2 ≤ 1000) (hd : d + 1 ≤ 64) : cmpOk (.tup xs) := by
  have h1 := fzL_le fun x hx => (h x hx).1
  have h2 := depL_le fun x hx => (h x hx).2
  exact ⟨by simp only [fz]; omega, by simp only [dep]; omega⟩
theorem rs_ref {μ : Mu} {l : Nat} {xs : List PV} (h : getL μ l = some xs) (hn : norefL xs = true) : rs μ (.ref l) = some (.lst xs) := by
  show rs2 μ l = _
  unfold rs2
  rw [h, Option.bind_some, rsWL_noref _ hn]; rfl
def chO (z : PV) (r : R PV) (μ : Mu) : R PV := match z with
  | .bl true => r
  | .bl false => .ok (.bl false) μ
  | _ => .bad
@[simp] theorem chO_ {b : Bool} {r : R PV} {μ : Mu} : chO (.bl b) r μ = if b = true then r else .ok (.bl false) μ := by cases b <;> rfl
@[simp] theorem dChain_ {f g : PV → PV → Mu → R PV} {a b c : Dn PV} {ρ : Rho} {μ : Mu} : dChain f g a b c ρ μ = (a ρ μ).bind fun x μ => (b ρ μ).bind fun y μ => (f x y μ).bind fun z μ => chO z ((c ρ μ).bind fun w μ => g y w μ) μ := by
  unfold dChain
  refine R.bind_congr fun x μ => R.bind_congr fun y μ => R.bind_congr fun z μ => ?_
  cases z with
  | bl b => cases b <;> rfl
  | _ => rfl
/-! ### the greatest of a row -/
def mx (ns : List Int) : Int := match ns with
  | m :: r => maxI m r
  | [] => 0
theorem maxI_snoc (x : Int) : ∀ (r : List Int) (m : Int), maxI m (r ++ [x]) = if maxI m r < x then x else maxI m r
  | [], m => rfl
  | y :: r, m => by
    rw [List.cons_append]
    unfold maxI
    exact maxI_snoc x r _
theorem mx_snoc (x : Int) : ∀ {ns : List Int}, ns ≠ [] → mx (ns ++ [x]) = if mx ns < x then x else mx ns
  | m :: r, _ => maxI_snoc x r m
theorem fMax_mx {xs : List PV} {ns : List Int} {μ : Mu} (h : allI xs = some ns) (hn : ns ≠ []) : fMax [.lst xs] μ = .ok (.int (mx ns)) μ := by
  cases ns with
  | nil => exact absurd rfl hn
  | cons m r => exact fMax_lst h
theorem mx_any (L : Int) {ns : List Int} (hn : ns ≠ []) : decide (L < mx ns) = ns.any fun x => decide (L < x) := by
  cases ns with
  | nil => exact absurd rfl hn
  | cons m r =>
    obtain ⟨h1, h2, h3⟩ := maxI_spec r m
    show decide (L < maxI m r) = _
    rw [Bool.eq_iff_iff, decide_eq_true_eq, List.any_eq_true]
    constructor
    · intro h
      rcases h1 with h1 | h1
      · exact ⟨m, List.mem_cons_self, by simp; omega⟩
      · exact ⟨_, List.mem_cons_of_mem _ h1, by simpa using h⟩
    · rintro ⟨x, hx, hl⟩
      simp at hl
      rcases List.mem_cons.mp hx with rfl | hx
      · omega
      · have := h3 x hx; omega
theorem mn_any (L : Int) (m : Int) (r : List Int) : decide (minI m r < L) = (m :: r).any fun x => decide (x < L) := by
  obtain ⟨h1, h2, h3⟩ := minI_spec r m
  rw [Bool.eq_iff_iff, decide_eq_true_eq, List.any_eq_true]
  constructor
  · intro h
    rcases h1 with h1 | h1
    · exact ⟨m, List.mem_cons_self, by simp; omega⟩
    · exact ⟨_, List.mem_cons_of_mem _ h1, by simpa using h⟩
  · rintro ⟨x, hx, hl⟩
    simp at hl
    rcases List.mem_cons.mp hx with rfl | hx
    · omega
    · have := h3 x hx; omega
theorem eqB_ref {μ : Mu} {l : Nat} {xs : List PV} (h : getL μ l = some xs) (y : PV) : eqB (.ref l) y μ = eqB (.lst xs) y μ := by
  have e : toD μ 1000 (.ref l) = toD μ 1000 (.lst xs) := by
    simp only [toD, h, Option.bind_some]
  unfold eqB
  cases y <;> simp only [e]
theorem fNe_ref {μ : Mu} {l : Nat} {xs : List PV} (h : getL μ l = some xs) (y : PV) : fNe (.ref l) y μ = fNe (.lst xs) y μ := by
  unfold fNe; rw [eqB_ref h]
theorem fEq_ref {μ : Mu} {l : Nat} {xs : List PV} (h : getL μ l = some xs) (y : PV) : fEq (.ref l) y μ = fEq (.lst xs) y μ := by
  unfold fEq; rw [eqB_ref h]
theorem ints_cmp {α : Type} {f : α → Int} {ks : List α} (h : ks.length ≤ 900) : cmpOk (.lst (ks.map fun k => .int (f k))) := cmp_lst (k := 1) (d := 0) (fun x hx => by
  obtain ⟨k, _, rfl⟩ := List.mem_map.mp hx
  simp [fz, dep]) (by rw [List.length_map]; omega) (by decide)
theorem range_filter_len {n : Nat} {keep : Nat → Bool} : ((List.range n).filter keep).length ≤ n := by
  have := List.length_filter_le keep (List.range n)
  rwa [List.length_range] at this
/-! ### rules and runs, plainly -/
def nxt (p q c a : Int) : Int := p * a / q + c
/-- the size behind so many growths -/
def sz (p q c a : Int) : Nat → Int
  | 0 => a
  | k + 1 => nxt p q c (sz p q c a k)
/-- the block behind so many growths -/
def blk (p q c a : Int) : Nat → Int × Int
  | 0 => (0, a)
  | k + 1 => if nxt p q c (blk p q c a k).2 ≤ (blk p q c a k).1 then (0, nxt p q c (blk p q c a k).2) else ((blk p q c a k).1 + (blk p q c a k).2, nxt p q c (blk p q c a k).2)
abbrev rl (p q c : Int) : PV := .tup [.int p, .int q, .int c]
/-- a RULE with p and q up to 10 ^ 6 -/
structure Rk (p q c : Int) : Prop where
  q1 : 1 ≤ q
  pq : q ≤ p
  p2 : p ≤ 1000000
  c0 : 0 ≤ c
  c1 : p = q → 1 ≤ c
theorem Rk.ps {p q c : Int} (h : Rk p q c) : p.natAbs < 18446744073709551616 := by have := h.q1; have := h.pq; have := h.p2; omega
theorem Rk.qs {p q c : Int} (h : Rk p q c) : q.natAbs < 18446744073709551616 := by have := h.q1; have := h.pq; have := h.p2; omega
theorem Rk.q0 {p q c : Int} (h : Rk p q c) : 0 < q := h.q1
theorem nxt_q {p q c : Int} (h : Rk p q c) : q < nxt p q c q := by
  unfold nxt
  have h1 := h.q1
  have h2 := h.pq
  have h3 := h.c0
  rw [Int.mul_ediv_cancel _ (by omega)]
  by_cases e : p = q
  · have := h.c1 e; omega
  · omega
theorem nxt_up {p q c a : Int} (h : Rk p q c) : nxt p q c a + 1 ≤ nxt p q c (a + 1) := by
  unfold nxt
  have h1 := h.q1
  have h2 := h.pq
  have e : p * (a + 1) = p * a + p := by rw [Int.mul_add, Int.mul_one]
  rw [e]
  have : p * a / q + 1 ≤ (p * a + p) / q := by
    rw [← Int.add_mul_ediv_right _ _ (show q ≠ 0 by omega), Int.one_mul]
    exact Int.ediv_le_ediv (by omega) (by omega)
  omega
/-- a START stays one upwards -/
theorem start_up {p q c m : Int} (h : Rk p q c) (hm : m < nxt p q c m) : ∀ k : Nat, m + k < nxt p q c (m + k)
  | 0 => by simpa using hm
  | k + 1 => by
    have := start_up h hm k
    have := nxt_up (a := m + k) h
    have e : m + ((k + 1 : Nat) : Int) = m + k + 1 := by omega
    rw [e]; omega
theorem start_ge {p q c m a : Int} (h : Rk p q c) (hm : m < nxt p q c m) (ha : m ≤ a) : a < nxt p q c a := by
  have := start_up h hm (a - m).toNat
  rwa [show m + ((a - m).toNat : Int) = a by omega] at this
def pairV (b : Int × Int) : PV := .tup [.int b.1, .int b.2]
def blks (p q c a : Int) (n : Nat) : List PV := (List.range (n + 1)).map fun k => pairV (blk p q c a k)
theorem blks_len (p q c a : Int) (n : Nat) : (blks p q c a n).length = n + 1 := by simp [blks]
theorem blks_succ (p q c a : Int) (n : Nat) : blks p q c a (n + 1) = blks p q c a n ++ [pairV (blk p q c a (n + 1))] := by
  unfold blks
  rw [List.range_succ, List.map_append]; rfl
theorem blks_last (p q c a : Int) (n : Nat) : atI (blks p q c a n) (-1) = some (pairV (blk p q c a n)) := by
  cases n with
  | zero => rfl
  | succ n => rw [blks_succ]; exact atI_last _ _
theorem blks_get (p q c a : Int) {n k : Nat} (h : k ≤ n) : (blks p q c a n)[k]? = some (pairV (blk p q c a k)) := by
  unfold blks
  rw [List.getElem?_map, List.getElem?_range (by omega)]; rfl
theorem blk_S (p q c a : Int) (k : Nat) : blk p q c a (k + 1) = if nxt p q c (blk p q c a k).2 ≤ (blk p q c a k).1 then (0, nxt p q c (blk p q c a k).2) else ((blk p q c a k).1 + (blk p q c a k).2, nxt p q c (blk p q c a k).2) := rfl
theorem blk_snd (p q c a : Int) (k : Nat) : (blk p q c a (k + 1)).2 = nxt p q c (blk p q c a k).2 := by rw [blk_S]; split <;> rfl
theorem blk_ok {p q c a : Int} (h : Rk p q c) (h1 : 1 ≤ a) (h2 : a < nxt p q c a) : ∀ k, 0 ≤ (blk p q c a k).1 ∧ a ≤ (blk p q c a k).2 ∧ (blk p q c a k).2 < nxt p q c (blk p q c a k).2
  | 0 => ⟨Int.le_refl _, Int.le_refl _, h2⟩
  | k + 1 => by
    obtain ⟨i1, i2, i3⟩ := blk_ok h h1 h2 k
    have i4 : a ≤ nxt p q c (blk p q c a k).2 := by omega
    unfold blk
    split
    · exact ⟨Int.le_refl _, i4, start_ge h h2 i4⟩
    · exact ⟨by show 0 ≤ (blk p q c a k).1 + (blk p q c a k).2; omega, i4, start_ge h h2 i4⟩
/-- how great the blocks grow -/
theorem blk_lt {p q c a : Int} (h : Rk p q c) (h1 : 1 ≤ a) (ha : a < (2 : Int) ^ 140) (hc : c < (2 : Int) ^ 140) : ∀ k, (blk p q c a k).2 < (2 : Int) ^ (140 + 21 * k)
  | 0 => by simpa [blk] using ha
  | k + 1 => by
    have i := blk_lt h h1 ha hc k
    have e := blk_snd p q c a k
    have e2 : (2 : Int) ^ (140 + 21 * (k + 1)) = (2 : Int) ^ (140 + 21 * k) * 2097152 := by
      rw [show 140 + 21 * (k + 1) = (140 + 21 * k) + 21 by omega, Int.pow_add]; rfl
    have hc2 : c < (2 : Int) ^ (140 + 21 * k) := Int.lt_of_lt_of_le hc (by
      rw [Int.pow_add]
      have : (1 : Int) ≤ 2 ^ (21 * k) := Int.pow_pos (by decide)
      have := Int.mul_le_mul_of_nonneg_left this (show (0 : Int) ≤ 2 ^ 140 by decide)
      omega)
    have hX : (0 : Int) < 2 ^ (140 + 21 * k) := Int.pow_pos (by decide)
    rw [e, e2]
    generalize (2 : Int) ^ (140 + 21 * k) = X at *
    generalize (blk p q c a k).2 = y at *
    unfold nxt
    have hp := h.p2
    have hp0 : 0 < p := by have := h.q1; have := h.pq; omega
    by_cases hy : 0 ≤ y
    · have d1 : p * y / q ≤ p * y := Int.ediv_le_self _ (Int.mul_nonneg (by omega) hy)
      have d2 := Int.mul_le_mul_of_nonneg_right hp hy
      omega
    · have d1 : p * y / q ≤ 0 := by
        have : p * y ≤ 0 := Int.mul_nonpos_of_nonneg_of_nonpos (by omega) (by omega)
        exact Int.ediv_nonpos_of_nonpos_of_neg this h.q0
      omega
theorem blk_fst {p q c a : Int} (h : Rk p q c) (h1 : 1 ≤ a) (h2 : a < nxt p q c a) : ∀ k, (blk p q c a k).1 ≤ k * (blk p q c a k).2
  | 0 => by simp [blk]
  | k + 1 => by
    have i := blk_fst h h1 h2 k
    obtain ⟨i1, i2, i3⟩ := blk_ok h h1 h2 k
    have e3 : (((k + 1 : Nat)) : Int) * nxt p q c (blk p q c a k).2 = k * nxt p q c (blk p q c a k).2 + nxt p q c (blk p q c a k).2 := by rw [Int.natCast_succ, Int.add_mul, Int.one_mul]
    have i5 : (k : Int) * (blk p q c a k).2 ≤ k * nxt p q c (blk p q c a k).2 := Int.mul_le_mul_of_nonneg_left (by omega) (by omega)
    have i6 : 0 ≤ (k : Int) * (blk p q c a k).2 := Int.mul_nonneg (by omega) (by omega)
    unfold blk
    split
    · show 0 ≤ ((k + 1 : Nat) : Int) * nxt p q c (blk p q c a k).2
      omega
    · show (blk p q c a k).1 + (blk p q c a k).2 ≤ ((k + 1 : Nat) : Int) * nxt p q c (blk p q c a k).2
      omega

theorem szs_succ (p q c a : Int) (k : Nat) : sz p q c a (k + 1) = nxt p q c (sz p q c a k) := rfl
theorem blk_sz (p q c a : Int) : ∀ k, (blk p q c a k).2 = sz p q c a k
  | 0 => rfl
  | k + 1 => by rw [blk_snd, blk_sz p q c a k]; rfl
/-- a RULE and a START of it, as a def takes them -/
def okS (p q c a n : Int) : Bool := decide (1 ≤ q) && decide (q ≤ p) && decide (p ≤ 1000000) && decide (0 ≤ c) && (!decide (p = q) || decide (1 ≤ c)) && decide (1 ≤ a) && decide (a < nxt p q c a) && decide (0 ≤ n) && decide (n ≤ 100000)
structure OkS (p q c a n : Int) : Prop where
  r : Rk p q c
  a1 : 1 ≤ a
  st : a < nxt p q c a
  n0 : 0 ≤ n
  n1 : n ≤ 100000
theorem okS_of {p q c a n : Int} (h : okS p q c a n = true) : OkS p q c a n := by
  simp only [okS, Bool.and_eq_true, Bool.or_eq_true, Bool.not_eq_true', decide_eq_true_eq, decide_eq_false_iff_not] at h
  obtain ⟨⟨⟨⟨⟨⟨⟨⟨v1, v2⟩, v3⟩, v4⟩, v5⟩, v6⟩, v7⟩, v8⟩, v9⟩ := h
  exact ⟨⟨v1, v2, v3, v4, fun z => v5.resolve_left (by simp [z])⟩, v6, v7, v8, v9⟩
theorem okS_mk {p q c a n : Int} (h : Rk p q c) (h1 : 1 ≤ a) (h2 : a < nxt p q c a) (h5 : 0 ≤ n) (h6 : n ≤ 100000) : okS p q c a n = true := by
  have := h.q1; have := h.pq; have := h.p2; have := h.c0; have h7 := h.c1
  simp only [okS, Bool.and_eq_true, Bool.or_eq_true, Bool.not_eq_true', decide_eq_true_eq, decide_eq_false_iff_not]
  refine ⟨⟨⟨⟨⟨⟨⟨⟨by omega, by omega⟩, by omega⟩, by omega⟩, ?_⟩, by omega⟩, h2⟩, by omega⟩, by omega⟩
  by_cases hpq : p = q
  · exact .inr (h7 hpq)
  · exact .inl hpq
/-- a spec over (rule, START, number) -/
def by3 (f : Int → Int → Int → Int → Nat → PV) (as : List PV) : Option PV := match as with
  | [.tup [.int p, .int q, .int c], .int a, .int n] => if okS p q c a n then some (f p q c a n.toNat) else none
  | _ => none
theorem by3_up {tr : Bool} {g : DF} {f : Int → Int → Int → Int → Nat → PV} (he : ∀ (p q c a : Int) (n : Nat), OkS p q c a n → Ends tr g [rl p q c, .int a, .int n] (f p q c a n)) (as : List PV) (v : PV) (_ : as.length = 3) (hv : by3 f as = some v) : Ends tr g as v := by
  unfold by3 at hv
  split at hv
  · rename_i p q c a n _
    split at hv
    · rename_i hk
      cases hv
      have h3 := (okS_of hk).n0
      have e := he p q c a n.toNat (by rw [Int.toNat_of_nonneg h3]; exact okS_of hk)
      rw [Int.toNat_of_nonneg h3] at e
      exact e
    · cases hv
  · cases hv
theorem g3 {tr : Bool} {f : Int → Int → Int → Int → Nat → PV} {p q c a n : Int} {μ : Mu} (h : OkS p q c a n) : gZ tr (by3 f) [rl p q c, .int a, .int n] μ = .ok (f p q c a n.toNat) μ := by
  refine gZ_ok rfl ?_
  unfold by3
  simp only [okS_mk h.r h.a1 h.st h.n0 h.n1, if_true]
/-- a spec over (rule, START) -/
def by2 (f : Int → Int → Int → Int → PV) (as : List PV) : Option PV := match as with
  | [.tup [.int p, .int q, .int c], .int a] => if okS p q c a 0 then some (f p q c a) else none
  | _ => none
theorem by2_up {tr : Bool} {g : DF} {f : Int → Int → Int → Int → PV} (he : ∀ (p q c a : Int), OkS p q c a 0 → Ends tr g [rl p q c, .int a] (f p q c a)) (as : List PV) (v : PV) (_ : as.length = 2) (hv : by2 f as = some v) : Ends tr g as v := by
  unfold by2 at hv
  split at hv
  · split at hv
    · rename_i hk
      cases hv
      exact he _ _ _ _ (okS_of hk)
    · cases hv
  · cases hv
theorem g2 {tr : Bool} {f : Int → Int → Int → Int → PV} {p q c a : Int} {μ : Mu} (h : OkS p q c a 0) : gZ tr (by2 f) [rl p q c, .int a] μ = .ok (f p q c a) μ := by
  refine gZ_ok rfl ?_
  unfold by2
  simp only [okS_mk h.r h.a1 h.st h.n0 h.n1, if_true]
theorem OkS.n {p q c a n m : Int} (h : OkS p q c a n) (h0 : 0 ≤ m) (h1 : m ≤ 100000) : OkS p q c a m := ⟨h.r, h.a1, h.st, h0, h1⟩
theorem pairV_noref (b : Int × Int) : noref (pairV b) = true := rfl
theorem pairV_noB (b : Int × Int) : noB (pairV b) = true := rfl
def alongV (p q c a : Int) (n : Nat) : PV := .lst (blks p q c a n)
theorem blks_noref (p q c a : Int) (n : Nat) : norefL (blks p q c a n) = true := norefL_map fun k => rfl
/-- how many cells growth k + 1 needs -/
def tpS (p q c a : Int) (k : Nat) : Int := if (blk p q c a (k + 1)).1 + (blk p q c a (k + 1)).2 > (blk p q c a k).1 + (blk p q c a k).2 then (blk p q c a (k + 1)).1 + (blk p q c a (k + 1)).2 else (blk p q c a k).1 + (blk p q c a k).2
def needsV (p q c a : Int) (n : Nat) : PV := .lst ((List.range n).map fun k => .int (tpS p q c a k))
theorem zip_blks (p q c a : Int) (n : Nat) : zipI (blks p q c a n) ((blks p q c a n).drop 1) = (List.range n).map fun k => .tup [pairV (blk p q c a k), pairV (blk p q c a (k + 1))] := by
  apply List.ext_getElem?
  intro i
  unfold zipI
  rw [List.getElem?_zipWith, List.getElem?_drop, List.getElem?_map]
  by_cases h : i < n
  · rw [blks_get p q c a (by omega), Nat.add_comm 1 i, blks_get p q c a (by omega), List.getElem?_range h]; rfl
  · rw [List.getElem?_eq_none (l := List.range n) (by simp; omega), List.getElem?_eq_none (l := blks p q c a n) (i := 1 + i) (by rw [blks_len]; omega)]
    cases (blks p q c a n)[i]? <;> rfl
/-! ### the source of draws -/
/-- the source of draws: n bounds its count -/
def UOk (n : Nat) (u : List PV) : Prop := ∃ a b c : Int, u = [.int a, .int b, .int c] ∧ 0 ≤ a ∧ 0 ≤ b ∧ b < 9223372036854775808 ∧ 0 ≤ c ∧ c ≤ n
theorem UOk.mono {n m : Nat} {u : List PV} (h : UOk n u) (hm : n ≤ m) : UOk m u := by
  obtain ⟨a, b, c, e, h1, h2, h3, h4, h5⟩ := h
  exact ⟨a, b, c, e, h1, h2, h3, h4, by omega⟩
@[simp] theorem ixN30 : ixN 3 0 = some 0 := by decide
@[simp] theorem ixN32 : ixN 3 2 = some 2 := by decide
def Fr (l : Nat) (μ μ' : Mu) : Prop := ∀ k xs, k ≠ l → getL μ k = some xs → getL μ' k = some xs
theorem Fr.refl {l : Nat} {μ : Mu} : Fr l μ μ := fun _ _ _ h => h
theorem Fr.trans {l : Nat} {μ μ' μ'' : Mu} (a : Fr l μ μ') (b : Fr l μ' μ'') : Fr l μ μ'' := fun k xs hk h => b k xs hk (a k xs hk h)
theorem Fr.app {l : Nat} {μ ν : Mu} : Fr l μ (μ ++ ν) := fun _ _ _ h => getL_app h
theorem Fr.set {l : Nat} {μ : Mu} {o : Ob} : Fr l μ (μ.set l o) := fun k xs hk h => by rw [getL_set_ne (Ne.symm hk)]; exact h
/-- the urn at l stands, drawn from at most n times; all else as it was -/
def Urn (l n : Nat) (μ : Mu) : Prop := ∃ u, getM μ l = some u ∧ UOk n u
theorem Urn.mono {l n m : Nat} {μ : Mu} (h : Urn l n μ) (hm : n ≤ m) : Urn l m μ := by
  obtain ⟨u, h1, h2⟩ := h
  exact ⟨u, h1, h2.mono hm⟩
theorem Fr.lt {l : Nat} {μ μ' : Mu} {k : Nat} {xs : List PV} (h : Fr l μ μ') (hk : k ≠ l) (e : getL μ k = some xs) : getL μ' k = some xs := h k xs hk e
theorem smp_up {n : Nat} {x : PV} (h : smp n x = true) (m : Nat) (hm : n ≤ m) : smp m x = true := by
  have gen : ∀ (n m : Nat), n ≤ m → ∀ x, smp n x = true → smp m x = true := by
    intro n
    induction n with
    | zero => intro m _ x h; simp [smp] at h
    | succ n ih =>
      intro m hm x h
      obtain ⟨m, rfl⟩ : ∃ k, m = k + 1 := ⟨m - 1, by omega⟩
      cases x with
      | non => rfl
      | bl _ => rfl
      | int _ => rfl
      | tup xs =>
        simp only [smp, Bool.and_eq_true] at h ⊢
        exact ⟨h.1, smpL_of fun y hy => ih m (by omega) y (smpL_mem h.2 y hy)⟩
      | lst xs =>
        simp only [smp, Bool.and_eq_true] at h ⊢
        exact ⟨h.1, smpL_of fun y hy => ih m (by omega) y (smpL_mem h.2 y hy)⟩
      | _ => simp [smp] at h
  exact gen n m hm _ h
theorem smp_noref : ∀ (n : Nat) {x : PV}, smp n x = true → noref x = true
  | 0, _, h => by simp [smp] at h
  | n + 1, x, h => by
    cases x with
    | non => rfl
    | bl _ => rfl
    | int _ => rfl
    | tup xs =>
      simp only [smp, Bool.and_eq_true] at h
      exact norefL_of fun y hy => smp_noref n (smpL_mem h.2 y hy)
    | lst xs =>
      simp only [smp, Bool.and_eq_true] at h
      exact norefL_of fun y hy => smp_noref n (smpL_mem h.2 y hy)
    | _ => simp [smp] at h
/-- got and due, read out, are one and the same -/
theorem gsame {x y z : PV} {μ : Mu} (hx : rs μ x = some z) (hy : rs μ y = some z) (hz : smp 6 z = true) : gZ false sameF [x, y] μ = .ok (.bl true) μ := by
  have hn := smp_noref 6 hz
  have e : rsL μ [x, y] = some [z, z] := by
    show rsWL (rs2 μ) [x, y] = _
    unfold rsWL
    rw [show rsW (rs2 μ) x = some z from hx]
    unfold rsWL
    rw [show rsW (rs2 μ) y = some z from hy]
    rfl
  have e2 : sameF [z, z] = some (.bl true) := by
    unfold sameF
    simp only [eqP_refl hn, hz, Bool.and_self, if_true]
  unfold gZ
  simp only [e, e2, plainR, flat, Bool.or_true, if_true]
theorem gsameL {x : PV} {μ : Mu} (hz : smp 6 x = true) : gZ false sameF [x, x] μ = .ok (.bl true) μ := gsame (rsW_noref _ (smp_noref 6 hz)) (rsW_noref _ (smp_noref 6 hz)) hz
theorem smpL_map {α : Type} {f : α → PV} {n : Nat} (ks : List α) (h : ∀ k, smp n (f k) = true) : smpL n (ks.map f) = true := smpL_of fun x hx => by
  obtain ⟨k, _, rfl⟩ := List.mem_map.mp hx
  exact h k
theorem smp_rows {α : Type} {f : α → PV} {n : Nat} {ks : List α} (hl : ks.length < 1000000) (h : ∀ k, smp n (f k) = true) : smp (n + 1) (.lst (ks.map f)) = true := by
  simp only [smp, List.length_map, decide_eq_true hl, smpL_map ks h, Bool.and_self]
theorem smp_rowT {α : Type} {f : α → PV} {n : Nat} {ks : List α} (hl : ks.length < 1000000) (h : ∀ k, smp n (f k) = true) : smp (n + 1) (.tup (ks.map f)) = true := by
  simp only [smp, List.length_map, decide_eq_true hl, smpL_map ks h, Bool.and_self]
theorem smp_ints {α : Type} {f : α → Int} {n : Nat} {ks : List α} (hl : ks.length < 1000000) : smp (n + 2) (.lst (ks.map fun k => .int (f k))) = true := smp_rows hl fun _ => rfl
@[simp] theorem smp_int {n : Nat} {i : Int} : smp (n + 1) (.int i) = true := rfl
/-- a comprehension whose items draw -/
theorem lc_eff {Inv : Mu → Prop} {g : PV → Rho → Option Rho} {te : Dn PV} {ρ : Rho} {lo : Int} (v : Nat → PV) {n : Nat} {μ : Mu} (hn : n ≤ 16777216) (h0 : Inv μ)
    (step : ∀ k μ, k < n → Inv μ → ∃ ρ2 μ', g (.int (lo + (k : Nat))) ρ = some ρ2 ∧ te ρ2 μ = .ok (v k) μ' ∧ Inv μ') : ∃ μ', dLcN (jRng lo n) g dYes te ρ lid 0 μ = .ok ((List.range n).map v) μ' ∧ Inv μ' := by
  rw [lc_rngP hn]
  unfold rngI
  have gen : ∀ (ks : List Nat) (μ : Mu), (∀ k ∈ ks, k < n) → Inv μ → ∃ μ', lcP g dYes te ρ (ks.map fun k => PV.int (lo + (k : Nat))) μ = .ok (ks.map v) μ' ∧ Inv μ' := by
    intro ks
    induction ks with
    | nil => exact fun μ _ h => ⟨μ, rfl, h⟩
    | cons k ks ih =>
      intro μ hk h
      obtain ⟨ρ2, μ1, e1, e2, h1⟩ := step k μ (hk k List.mem_cons_self) h
      obtain ⟨μ2, e3, h2⟩ := ih μ1 (fun j hj => hk j (List.mem_cons_of_mem _ hj)) h1
      refine ⟨μ2, ?_, h2⟩
      rw [List.map_cons]
      unfold lcP
      rw [e1]
      simp only [dYes_, R.nex_ok, R.bind_ok, e2, e3, List.map_cons]
  exact gen _ μ (fun k hk => List.mem_range.mp hk) h0
/-- .. whose values are drawn -/
theorem lc_effV {Inv : Nat → Mu → Prop} {P : PV → Prop} {g : PV → Rho → Option Rho} {te : Dn PV} {ρ : Rho} {lo : Int} {n : Nat} {μ : Mu} (hn : n ≤ 16777216) (h0 : Inv 0 μ)
    (step : ∀ k μ, k < n → Inv k μ → ∃ ρ2 v μ', g (.int (lo + (k : Nat))) ρ = some ρ2 ∧ te ρ2 μ = .ok v μ' ∧ P v ∧ Inv (k + 1) μ') : ∃ ys μ', dLcN (jRng lo n) g dYes te ρ lid 0 μ = .ok ys μ' ∧ ys.length = n ∧ (∀ y ∈ ys, P y) ∧ Inv n μ' := by
  rw [lc_rngP hn]
  unfold rngI
  have gen : ∀ (m i : Nat) (μ : Mu), i + m = n → Inv i μ → ∃ ys μ', lcP g dYes te ρ (((List.range n).drop i).map fun k => PV.int (lo + (k : Nat))) μ = .ok ys μ' ∧ ys.length = m ∧ (∀ y ∈ ys, P y) ∧ Inv n μ' := by
    intro m
    induction m with
    | zero =>
      intro i μ hi h
      have : i = n := by omega
      subst this
      rw [List.drop_of_length_le (by simp)]
      exact ⟨[], μ, rfl, rfl, fun y hy => by simp at hy, h⟩
    | succ m ih =>
      intro i μ hi h
      have hlt : i < n := by omega
      obtain ⟨ρ2, v, μ1, e1, e2, h1, h2⟩ := step i μ hlt h
      obtain ⟨ys, μ2, e3, l3, p3, h3⟩ := ih (i + 1) μ1 (by omega) h2
      refine ⟨v :: ys, μ2, ?_, by simp [l3], fun y hy => ?_, h3⟩
      · rw [List.drop_eq_getElem_cons (by simpa using hlt), List.map_cons, List.getElem_range]
        unfold lcP
        rw [e1]
        simp only [dYes_, R.nex_ok, R.bind_ok, e2, e3]
      · rcases List.mem_cons.mp hy with rfl | hy
        · exact h1
        · exact p3 y hy
  have := gen n 0 μ (by omega) h0
  simpa using this
theorem bls_of : ∀ {ys : List PV}, (∀ y ∈ ys, ∃ b, y = PV.bl b) → ∃ bs : List Bool, ys = bs.map .bl
  | [], _ => ⟨[], rfl⟩
  | y :: ys, h => by
    obtain ⟨b, rfl⟩ := h y List.mem_cons_self
    obtain ⟨bs, rfl⟩ := bls_of fun y hy => h y (List.mem_cons_of_mem _ hy)
    exact ⟨b :: bs, rfl⟩
theorem eqvAll_bls : ∀ bs cs : List Bool, PyData.eqvAll (dpL (bs.map .bl)) (dpL (cs.map .bl)) = decide (bs = cs)
  | [], [] => by simp [dpL, PyData.eqvAll]
  | [], _ :: _ => by simp [dpL, PyData.eqvAll]
  | _ :: _, [] => by simp [dpL, PyData.eqvAll]
  | b :: bs, c :: cs => by
    simp only [List.map_cons, dpL, PyData.eqvAll, eqvAll_bls bs cs, dp, eqv_bl]
    by_cases h : b = c <;> simp [h]
theorem fEq_bls {bs cs : List Bool} {μ : Mu} (h1 : bs.length ≤ 900) (h2 : cs.length ≤ 900) : fEq (.lst (bs.map .bl)) (.lst (cs.map .bl)) μ = .ok (.bl (decide (bs = cs))) μ := by
  have c : ∀ bs : List Bool, bs.length ≤ 900 → cmpOk (.lst (bs.map .bl)) := fun bs h => cmp_lst (k := 1) (d := 0) (fun x hx => by
    obtain ⟨k, _, rfl⟩ := List.mem_map.mp hx
    simp [fz, dep]) (by rw [List.length_map]; omega) (by decide)
  unfold fEq
  rw [eqB_dp (x := .lst (bs.map .bl)) (y := .lst (cs.map .bl)) (noSL_map fun _ => rfl) (noSL_map fun _ => rfl) (c bs h1) (c cs h2)]
  simp only [dp, PyData.eqv, eqvAll_bls]
/-- the law's end, by all([.. for each cell ..]): every urn drawn right -/
theorem law_allR {te : Dn PV} {ρ : Rho} {μ0 : Mu} {lc i : Nat} {xs : List Int} (hx : xs.length ≤ 1000) (h0 : getL μ0 lc = some (xs.map .int))
    (step : ∀ (k : Nat) μ, k < xs.length → getL μ lc = some (xs.map .int) → ∃ μ', te (ρ.set i (some (.int (0 + (k : Int))))) μ = .ok (.bl true) μ' ∧ getL μ' lc = some (xs.map .int)) :
    ∃ μ', dLcN (jRng 0 xs.length) (gcN i) dYes te ρ lid 0 μ0 = .ok ((List.range xs.length).map fun _ => .bl true) μ' := by
  obtain ⟨μ', e, _⟩ := lc_eff (Inv := fun μ => getL μ lc = some (xs.map .int)) (g := gcN i) (te := te) (ρ := ρ) (lo := 0) (fun _ => .bl true) (n := xs.length) (μ := μ0) (by omega) h0 fun k μ hk h => by
    obtain ⟨μ', e1, e2⟩ := step k μ hk h
    exact ⟨_, μ', rfl, e1, e2⟩
  exact ⟨μ', e⟩
/-- .. by a loop -/
theorem law_loop {b : DS} {ρ0 : Rho} {μ0 : Mu} {lc i : Nat} {xs : List Int} (hx : xs.length ≤ 1000) (h0 : getL μ0 lc = some (xs.map .int)) {InvR : Rho → Prop} (hr : InvR ρ0)
    (step : ∀ (k : Nat) ρ μ, k < xs.length → InvR ρ → getL μ lc = some (xs.map .int) → ∃ ρ' μ', b (ρ.set i (some (.int (0 + (k : Int))))) μ = .nx ρ' μ' ∧ InvR ρ' ∧ getL μ' lc = some (xs.map .int)) :
    ∃ ρ' μ', dForN (jRng 0 xs.length) (gN i) b lid 0 ρ0 μ0 = .nx ρ' μ' ∧ InvR ρ' := by
  refine for_rng (n := xs.length) (Inv := fun i ρ μ => InvR ρ ∧ getL μ lc = some (xs.map .int)) (Q := fun o => ∃ ρ' μ', o = .nx ρ' μ' ∧ InvR ρ') (by unfold lid; omega) ⟨hr, h0⟩ ?_ ?_
  · rintro ρ μ ⟨h1, h2⟩
    exact ⟨ρ, μ, rfl, h1⟩
  · rintro k ρ μ hi ⟨h1, h2⟩
    obtain ⟨ρ', μ', e, e1, e2⟩ := step k ρ μ hi h1 h2
    refine ⟨_, _, rfl, ?_⟩
    rw [e]
    exact ⟨e1, e2⟩
end GB
set_option Elab.async false
set_option linter.all false
set_option maxRecDepth 100000
set_option maxHeartbeats 2000000
namespace GB
open PySem L2
/-! ### comprehensions over a list that is tracked -/
theorem lcN_at {α : Type} {j : DI} {g : PV → Rho → Option Rho} {tt : Dn Bool} {te : Dn PV} {ρ : Rho} {μ : Mu} {enc : α → PV} {ks : List α} (keep : α → Bool) (v : α → PV) (hj : ∀ i, j μ i = some ((ks.map enc)[i]?)) (hn : ks.length ≤ 16777216)
    (h : ∀ k ∈ ks, ∃ ρ2, g (enc k) ρ = some ρ2 ∧ tt ρ2 μ = .ok (keep k) μ ∧ (keep k = true → te ρ2 μ = .ok (v k) μ)) :
    ∀ (r : List α) (f i : Nat), ks.drop i = r → ks.length < f + i → i ≤ ks.length → dLcN j g tt te ρ f i μ = .ok ((r.filter keep).map v) μ
  | r, 0, i, hd, hf, hi => by omega
  | [], f + 1, i, hd, hf, hi => by
    unfold dLcN
    have : ks.length ≤ i := List.drop_eq_nil_iff.mp hd
    rw [hj, List.getElem?_eq_none (by rw [List.length_map]; exact this)]
    rfl
  | x :: r, f + 1, i, hd, hf, hi => by
    have hi : i < ks.length := by
      apply Classical.byContradiction
      intro z
      rw [List.drop_of_length_le (by omega)] at hd
      cases hd
    have hx : ks[i]? = some x := by
      have := List.getElem?_drop (xs := ks) (i := i) (j := 0)
      rw [hd] at this
      simpa using this.symm
    have hd2 : ks.drop (i + 1) = r := by
      rw [← List.drop_drop, hd]; rfl
    have ih := lcN_at keep v hj hn h r f (i + 1) hd2 (by omega) (by omega)
    obtain ⟨ρ2, h1, h2, h3⟩ := h x (List.mem_of_getElem? hx)
    unfold dLcN
    rw [hj, List.getElem?_map, hx]
    simp only [Option.map_some, h1, h2, R.nex_ok, R.bind_ok]
    by_cases hk : keep x = true
    · have hlt : i < 16777216 := by omega
      simp only [hk, h3 hk, R.nex_ok, R.bind_ok, ih, hlt, if_true, List.filter_cons_of_pos hk, List.map_cons]
    · have hk2 : keep x = false := by simpa using hk
      simp only [hk2, ih, List.filter_cons_of_neg hk]
theorem lc_refF {α : Type} {l : Nat} {g : PV → Rho → Option Rho} {tt : Dn Bool} {te : Dn PV} {ρ : Rho} {μ : Mu} {enc : α → PV} {ks : List α} (keep : α → Bool) (v : α → PV) (hg : getL μ l = some (ks.map enc)) (hn : ks.length ≤ 16777216)
    (h : ∀ k ∈ ks, ∃ ρ2, g (enc k) ρ = some ρ2 ∧ tt ρ2 μ = .ok (keep k) μ ∧ (keep k = true → te ρ2 μ = .ok (v k) μ)) : dLcN (jLst l) g tt te ρ lid 0 μ = .ok ((ks.filter keep).map v) μ :=
  lcN_at keep v (fun i => by unfold jLst; rw [hg]; rfl) hn h ks lid 0 rfl (by unfold lid; omega) (Nat.zero_le _)
theorem lc_refT {α : Type} {l : Nat} {g : PV → Rho → Option Rho} {te : Dn PV} {ρ : Rho} {μ : Mu} {enc : α → PV} {ks : List α} (v : α → PV) (hg : getL μ l = some (ks.map enc)) (hn : ks.length ≤ 16777216)
    (h : ∀ k ∈ ks, ∃ ρ2, g (enc k) ρ = some ρ2 ∧ te ρ2 μ = .ok (v k) μ) : dLcN (jLst l) g dYes te ρ lid 0 μ = .ok (ks.map v) μ := by
  have := lc_refF (tt := dYes) (g := g) (te := te) (ρ := ρ) (μ := μ) (enc := enc) (fun _ => true) v (ks := ks) hg hn fun k hk => by
    obtain ⟨ρ2, h1, h2⟩ := h k hk
    exact ⟨ρ2, h1, rfl, fun _ => h2⟩
  rw [List.filter_eq_self.mpr (fun _ _ => rfl)] at this
  exact this
@[simp] theorem dCnt_ {ρ : Rho} {μ : Mu} : dCnt ρ μ = .ct ρ μ := rfl
@[simp] theorem dBrk_ {ρ : Rho} {μ : Mu} : dBrk ρ μ = .bk ρ μ := rfl
end GB
set_option Elab.async false
set_option linter.all false
set_option maxRecDepth 100000
set_option maxHeartbeats 2000000
namespace GB
open PySem PySem.Spec PyProof.Rows L2
/-! ### list(range(..)), tuple(range(..)) -/
def rngP (x y : PV) : Option (List PV) := match x, y with
  | .int i, .int j => if decide (-4611686018427387904 ≤ i) && decide (i < 4611686018427387904) && decide (-4611686018427387904 ≤ j) && decide (j < 4611686018427387904) && decide ((j - i).toNat ≤ 16777216) then some ((List.range (j - i).toNat).map fun k => .int (i + (k : Nat))) else none
  | _, _ => none
def lstR (x y : PV) (μ : Mu) : R PV := match rngP x y with
  | some xs => .ok (.lst xs) μ
  | none => .bad
def tupR (x y : PV) (μ : Mu) : R PV := match rngP x y with
  | some xs => .ok (.tup xs) μ
  | none => .bad
section
variable {X : Cx} {K : PySem.W.Frag} {W : WS}
theorem repL_ints {ι : Io} {H : Hp} (f : Nat → Int) : ∀ ks : List Nat, RepL K ι H (ks.map fun k => .int (f k)) (ks.map fun k => V.int (f k))
  | [] => RepL.nil_
  | k :: ks => RepL.cons_ rfl (repL_ints f ks)
theorem lstR_ok {da db : Dn PV} {σ : L2.St} {H : Hp} {Q : VK} (h : LE K W (dOp lstR da db) σ H Q) :
    LE K W da σ H fun x H1 => LE K W db σ H1 fun y H2 => ∃ i j, x = V.int i ∧ y = V.int j ∧ RgOk i j ∧ ∀ q, H2 q = none → Q (.ref q) (upd H2 q (.lst (rgV i j))) := by
  obtain ⟨ρ, μ, ι, sr, hr0, h⟩ := h
  refine ⟨ρ, μ, ι, sr, hr0, Post.mono (Post.bind h) ?_⟩
  rintro v H1 ⟨x, μ1, ι1, g1, hr1, r1, h1⟩
  refine ⟨ρ, μ1, ι1, sr.grow g1, hr1, Post.mono (Post.bind h1) ?_⟩
  rintro w H2 ⟨y, μ2, ι2, g2, hr2, r2, h2⟩
  unfold lstR at h2
  split at h2
  · rename_i xs e
    unfold rngP at e
    split at e
    · rename_i i j
      split at e
      · rename_i c
        cases r1; cases r2; cases e
        simp only [Bool.and_eq_true, decide_eq_true_eq] at c
        obtain ⟨⟨⟨⟨c1, c2⟩, c3⟩, c4⟩, c5⟩ := c
        exact ⟨i, j, rfl, rfl, ⟨by omega, by omega, by omega, by omega, by omega⟩, fun p hp => h2.at_ (grow_new hp) (hr2.new hp) (new_lst hr2 hp (repL_ints _ _))⟩
      · cases e
    · cases e
  · exact h2.elim
theorem tupR_ok {da db : Dn PV} {σ : L2.St} {H : Hp} {Q : VK} (h : LE K W (dOp tupR da db) σ H Q) :
    LE K W da σ H fun x H1 => LE K W db σ H1 fun y H2 => ∃ i j, x = V.int i ∧ y = V.int j ∧ RgOk i j ∧ ∀ q, H2 q = none → Q (.ref q) (upd H2 q (.tup (rgV i j))) := by
  obtain ⟨ρ, μ, ι, sr, hr0, h⟩ := h
  refine ⟨ρ, μ, ι, sr, hr0, Post.mono (Post.bind h) ?_⟩
  rintro v H1 ⟨x, μ1, ι1, g1, hr1, r1, h1⟩
  refine ⟨ρ, μ1, ι1, sr.grow g1, hr1, Post.mono (Post.bind h1) ?_⟩
  rintro w H2 ⟨y, μ2, ι2, g2, hr2, r2, h2⟩
  unfold tupR at h2
  split at h2
  · rename_i xs e
    unfold rngP at e
    split at e
    · rename_i i j
      split at e
      · rename_i c
        cases r1; cases r2; cases e
        simp only [Bool.and_eq_true, decide_eq_true_eq] at c
        obtain ⟨⟨⟨⟨c1, c2⟩, c3⟩, c4⟩, c5⟩ := c
        exact ⟨i, j, rfl, rfl, ⟨by omega, by omega, by omega, by omega, by omega⟩, fun p hp => h2.at_ (grow_new hp) (hr2.new hp) ⟨p, rgV i j, rfl, .of upd_same, repL_ints _ _⟩⟩
      · cases e
    · cases e
  · exact h2.elim
variable {a b : Expr} {da db : Dn PV} {p p2 pos cpos : Pos}
theorem e_lstR2 (hm : X.mg "list" = none) (hm2 : X.mg "range" = none) (ha : PE X a (LE X.K W da)) (hb : PE X b (LE X.K W db)) (hc : X.calm = true := by rfl) (hg : Gl X "list" := by rfl) (hg2 : Gl X "range" := by rfl)
    (na : starEach [a, b] X.env = (false, eval a X.env) :: starEach [b] X.env := by rfl) (nb : starEach [b] X.env = (false, eval b X.env) :: starEach [] X.env := by rfl) (hp : (backTo cpos (starEach [b] X.env)).any (·.1) = false := by rfl)
    (nc : starEach [.Call (.Name "range" p2) [a, b] [] cpos] X.env = (false, eval (.Call (.Name "range" p2) [a, b] [] cpos) X.env) :: starEach [] X.env := by rfl) :
    PE X (.Call (.Name "list" p) [.Call (.Name "range" p2) [a, b] [] cpos] [] pos) (LE X.K W (dOp lstR da db)) :=
  (pe_listRg hc hg hm (prg_2 hg2 hm2 ha hb na nb hp) nc).mono fun σ H Q h => lstR_ok h
theorem e_tupR2 (hm : X.mg "tuple" = none) (hm2 : X.mg "range" = none) (ha : PE X a (LE X.K W da)) (hb : PE X b (LE X.K W db)) (hc : X.calm = true := by rfl) (hg : Gl X "tuple" := by rfl) (hg2 : Gl X "range" := by rfl)
    (na : starEach [a, b] X.env = (false, eval a X.env) :: starEach [b] X.env := by rfl) (nb : starEach [b] X.env = (false, eval b X.env) :: starEach [] X.env := by rfl) (hp : (backTo cpos (starEach [b] X.env)).any (·.1) = false := by rfl)
    (nc : starEach [.Call (.Name "range" p2) [a, b] [] cpos] X.env = (false, eval (.Call (.Name "range" p2) [a, b] [] cpos) X.env) :: starEach [] X.env := by rfl) :
    PE X (.Call (.Name "tuple" p) [.Call (.Name "range" p2) [a, b] [] cpos] [] pos) (LE X.K W (dOp tupR da db)) :=
  (pe_tupRg hc hg hm (prg_2 hg2 hm2 ha hb na nb hp) nc).mono fun σ H Q h => tupR_ok h
theorem lstR1_ok {db : Dn PV} {σ : L2.St} {H : Hp} {Q : VK} (h : LE K W (dOp lstR (dC (.int 0)) db) σ H Q) :
    LE K W db σ H fun y H2 => ∃ j, y = V.int j ∧ RgOk 0 j ∧ ∀ q, H2 q = none → Q (.ref q) (upd H2 q (.lst (rgV 0 j))) := by
  obtain ⟨ρ, μ, ι, sr, hr0, h⟩ := h
  have h : Post K (W σ) (fun ι H => Rep K ι H) ι H ((db ρ μ).bind fun y μ => lstR (.int 0) y μ) Q := h
  refine ⟨ρ, μ, ι, sr, hr0, Post.mono (Post.bind h) ?_⟩
  rintro w H2 ⟨y, μ2, ι2, g2, hr2, r2, h2⟩
  unfold lstR at h2
  split at h2
  · rename_i xs e
    unfold rngP at e
    split at e
    · rename_i i j q
      cases q
      split at e
      · rename_i c
        cases r2; cases e
        simp only [Bool.and_eq_true, decide_eq_true_eq] at c
        obtain ⟨⟨⟨⟨c1, c2⟩, c3⟩, c4⟩, c5⟩ := c
        exact ⟨j, rfl, ⟨by omega, by omega, by omega, by omega, by omega⟩, fun p hp => h2.at_ (grow_new hp) (hr2.new hp) (new_lst hr2 hp (repL_ints _ _))⟩
      · cases e
    · cases e
  · exact h2.elim
theorem e_lstR1 (hm : X.mg "list" = none) (hm2 : X.mg "range" = none) (hb : PE X b (LE X.K W db)) (hc : X.calm = true := by rfl) (hg : Gl X "list" := by rfl) (hg2 : Gl X "range" := by rfl)
    (nb : starEach [b] X.env = (false, eval b X.env) :: starEach [] X.env := by rfl)
    (nc : starEach [.Call (.Name "range" p2) [b] [] cpos] X.env = (false, eval (.Call (.Name "range" p2) [b] [] cpos) X.env) :: starEach [] X.env := by rfl) :
    PE X (.Call (.Name "list" p) [.Call (.Name "range" p2) [b] [] cpos] [] pos) (LE X.K W (dOp lstR (dC (.int 0)) db)) :=
  (pe_listRg hc hg hm (prg_1 hg2 hm2 hb nb) nc).mono fun σ H Q h => lstR1_ok h
end
theorem lstR_ints {i j : Int} {μ : Mu} (h1 : -4611686018427387904 ≤ i) (h2 : i < 4611686018427387904) (h3 : -4611686018427387904 ≤ j) (h4 : j < 4611686018427387904) (h5 : (j - i).toNat ≤ 16777216) : lstR (.int i) (.int j) μ = .ok (.lst ((List.range (j - i).toNat).map fun k => .int (i + (k : Nat)))) μ := by
  unfold lstR rngP
  simp only [decide_eq_true h1, decide_eq_true h2, decide_eq_true h3, decide_eq_true h4, decide_eq_true h5, Bool.and_self, if_true]
/-! ### (A if C else B) as a test -/
def dIfB (c a b : Dn Bool) : Dn Bool := fun ρ μ => (c ρ μ).bind fun k μ => if k = true then a ρ μ else b ρ μ
@[simp] theorem dIfB_ {c a b : Dn Bool} {ρ : Rho} {μ : Mu} : dIfB c a b ρ μ = (c ρ μ).bind fun k μ => if k = true then a ρ μ else b ρ μ := ndf rfl
section
variable {X : Cx} {K : PySem.W.Frag} {W : WS} {a b c : Expr} {pos : Pos}
theorem pt_ifExp {tA ta tb : TT} (hc : PT X c tA) (ha : PT X a ta) (hb : PT X b tb) : PT X (.IfExp c a b pos) (fun σ H Q => tA σ H fun k H1 => if k = true then ta σ H1 Q else tb σ H1 Q) := by
  refine ⟨fun pins s σ H Q I h => ?_⟩
  have e : PySem.isTrue (.IfExp c a b pos) X.env (eval (.IfExp c a b pos) X.env) = (do if ← PySem.isTrue c X.env (eval c X.env) then PySem.isTrue a X.env (eval a X.env) else PySem.isTrue b X.env (eval b X.env)) := by
    simp only [PySem.isTrue]
  rw [e]
  refine wpAny_bind (thn (hc.run pins s σ H _ I h) fun d s1 ⟨H1, I1, q1⟩ => ?_)
  cases d with
  | true => exact ha.run pins s1 σ H1 Q I1 q1
  | false => exact hb.run pins s1 σ H1 Q I1 q1
theorem t_if {bc ba bb : Dn Bool} (hc : PT X c (LT X.K W bc)) (ha : PT X a (LT X.K W ba)) (hb : PT X b (LT X.K W bb)) : PT X (.IfExp c a b pos) (LT X.K W (dIfB bc ba bb)) := by
  refine (pt_ifExp hc ha hb).mono fun σ H Q ⟨ρ, μ, ι, sr, hr, h⟩ => ?_
  refine ⟨ρ, μ, ι, sr, hr, Post.mono (Post.bind h) ?_⟩
  rintro v H1 ⟨x, μ1, ι1, g1, hr1, rfl, h1⟩
  cases x with
  | true => rw [if_pos rfl] at h1 ⊢; exact ⟨ρ, μ1, ι1, sr.grow g1, hr1, h1⟩
  | false => rw [if_neg Bool.false_ne_true] at h1 ⊢; exact ⟨ρ, μ1, ι1, sr.grow g1, hr1, h1⟩
end
end GB
set_option Elab.async false
set_option linter.all false
set_option maxRecDepth 100000
set_option maxHeartbeats 2000000
namespace GB
open PySem L2
section
variable {o0 o1 o2 o3 o4 o5 o6 o7 o8 : Ob} {x : List PV} {r : Mu}
@[simp] theorem getL_c6 : getL (o0 :: o1 :: o2 :: o3 :: o4 :: o5 :: Ob.lst x :: r) 6 = some x := rfl
@[simp] theorem getL_c7 : getL (o0 :: o1 :: o2 :: o3 :: o4 :: o5 :: o6 :: Ob.lst x :: r) 7 = some x := rfl
@[simp] theorem getL_c8 : getL (o0 :: o1 :: o2 :: o3 :: o4 :: o5 :: o6 :: o7 :: Ob.lst x :: r) 8 = some x := rfl
@[simp] theorem getL_c9 : getL (o0 :: o1 :: o2 :: o3 :: o4 :: o5 :: o6 :: o7 :: o8 :: Ob.lst x :: r) 9 = some x := rfl
end
/-! ### more for simp: short comprehensions item by item; loops run by the kernel -/
section
variable {te : Dn PV} {ρ : Rho} {μ : Mu} {x : PV} {xs : List PV} {i : Nat}
@[simp] theorem lcP_N : lcP (gcN i) dYes te ρ (x :: xs) μ = (te (ρ.set i (some x)) μ).nex.bind fun y μ => (lcP (gcN i) dYes te ρ xs μ).bind fun ys μ => .ok (y :: ys) μ := ndf rfl
@[simp] theorem lcP_0 {g : PV → Rho → Option Rho} {tt : Dn Bool} : lcP g tt te ρ [] μ = .ok [] μ := ndf rfl
end
theorem turn_nx {I : Rho → Mu → Prop} {Q : O → Prop} {o : O} {ρ : Rho} {μ : Mu} (h : o = .nx ρ μ) (h2 : I ρ μ) : turnTo I Q o := by rw [h]; exact h2
theorem turn_rt {I : Rho → Mu → Prop} {Q : O → Prop} {o : O} {v : PV} {μ : Mu} (h : o = .rt v μ) (h2 : Q (.rt v μ)) : turnTo I Q o := by rw [h]; exact h2
def nxB (n : Nat) (o : O) : Bool := match o with
  | .nx ρ [] => Nat.beq ρ.length n
  | _ => false
theorem nx_of {n : Nat} {o : O} (h : nxB n o = true) : ∃ ρ, o = .nx ρ [] ∧ ρ.length = n := by
  unfold nxB at h
  split at h
  · exact ⟨_, rfl, Nat.eq_of_beq_eq_true h⟩
  · cases h
end GB
set_option Elab.async false
set_option linter.all false
set_option maxRecDepth 100000
set_option maxHeartbeats 4000000
namespace GB
open PySem PySem.Spec PyProof.Rows L2
/-! ### sorted(set(..)): ints, or pairs of ints -/
/-- a set with no members, as it is made -/
abbrev sob (w : World) : Obj := { cls := .type "set", dict := none, data := .set #[] 0 (.fresh 0 0 (!w.params.followText "set-order")) }
section
variable {P : Program} {w : World} {A : Around} {E : Value → Shared → Prop} {s : Shared}
theorem sob_at {g : Heap} {a : Addr} {zs : List Int} (e : g.get? a = some (sob w)) : SetR w g a (fun j => decide (j ∈ zs.take 0)) 0 := setR_new_at e
/-- set(l) of a list of ints -/
theorem set_of_list {l : Addr} {its : Array Value} (zs : List Int) {Q : Value → Shared → Prop} (hA : A.handled = none) (hL : s.heap.IsList l its) (hI : IntsAre its.toList zs) (hb : zs.length + 1 < scanBound)
    (hQ : ∀ (g : Heap) (t c : Nat), SetR w g s.heap.objs.size (fun j => decide (j ∈ zs)) c → c ≤ zs.length → (∀ b o, s.heap.get? b = some o → g.get? b = some o) → Q (.ref s.heap.objs.size) { s with heap := g, toks := t }) :
    wpAny (model P w) A (call (.type "set") [.ref l]) Q E s := by
  have hsz : its.size = zs.length := by have z := IntsAre.length hI; rwa [Array.length_toList] at z
  obtain ⟨mr1, mr2, hmro⟩ := F.called_set.mro
  have k1 := F.called_set.made
  have k2 := F.called_set.sub
  refine wpAny_call (codeAny_of_tree ?_)
  show wpAny _ _ (callAny (.type "set") _) _ _ _
  refine wpAny_pure ⟨Code.quiet_builtin _ (by decide +kernel), codeAny_builtin F.entry_type_call ?_⟩
  rw [Around.under_plain (weight_type_call_type "set" [.ref l] []) rfl]
  have k3 := F.called_set.notType
  have k4 := F.called_set.canCreate
  have k5 := F.typeCall_set_1 (.ref l)
  repeat (any_goals (first | assumption | wp_step))
  refine codeAny_mono (code_set_led1 (.ref l) (E := E) (Q₁ := fun ob t1 => ob = .ref s.heap.objs.size ∧ t1 = { s with heap := s.heap.push (sob w) }) ⟨rfl, rfl⟩) fun r t1 hr => ?_
  cases r with
  | error e => exact hr
  | ok fl => cases fl with
    | ret ob =>
      obtain ⟨rfl, rfl⟩ := hr
      have gS : (s.heap.push (sob w)).get? s.heap.objs.size = some (sob w) := Heap.get?_push_size _ rfl
      have tS : Shared.TypeIs { s with heap := s.heap.push (sob w) } (.ref s.heap.objs.size) "set" := ⟨_, gS, rfl⟩
      have k6 := F.called_set.init.lookup
      have k7 := F.called_set.init.bind (.ref s.heap.objs.size)
      repeat (any_goals (first | assumption | wp_step))
      refine codeAny_mono (codeAny_call_builtin (R := wants (fun r t2 => r = .none ∧ ∃ g t c, t2 = { s with heap := g, toks := t } ∧ SetR w g s.heap.objs.size (fun j => decide (j ∈ zs)) c ∧ c ≤ zs.length ∧ (∀ b o, s.heap.get? b = some o → g.get? b = some o)) E) F.called_set.init.plain F.entry_set_init (check_set_init_1 tS ?_)) fun r2 t2 hr2 => ?_
      · obtain ⟨⟨c1, c2, c3, c4⟩, ho, hc1, m, hd1⟩ := hL
        simp only at hc1 hd1
        subst hc1 hd1
        have ho' : (s.heap.push (sob w)).get? l = some { cls := .type "list", dict := c2, data := .seq its m, slots := c4 } := Heap.get?_push_of_some _ ho
        have y1 := F.sub_list_set
        have y2 := F.sub_list_frozenset
        have y3 : (Value.type "list" == Value.type "dict") = false := by decide
        have hL1 : (s.heap.push (sob w)).IsList l its := ⟨_, ho', rfl, m, rfl⟩
        unfold Builtin.«set.__init__» noKeywords Builtin.Frozenset.updateFrom
        generalize ePI : pyIter = PI
        wp_walk
        subst ePI
        refine wpAny_pyIter_list hL1 (wpAny_bind (wpAny_runValue ?_))
        have lS : l < s.heap.objs.size := Heap.lt_size ho
        have hA3 : A.in1.in1.in1.handled = none := by simp [hA]
        have nI : l ≠ (s.heap.push (sob w)).objs.size := by rw [Heap.size_push]; exact Nat.ne_of_lt (Nat.lt_succ_of_lt lS)
        have nS : s.heap.objs.size ∉ [(s.heap.push (sob w)).objs.size, l] := by
          rw [Heap.size_push]
          simp only [List.mem_cons, List.not_mem_nil, or_false, not_or]
          exact ⟨Nat.ne_of_lt (Nat.lt_succ_self _), Nat.ne_of_gt lS⟩
        have val : ∀ (i : Nat) (v : Value), its[i]? = some v → ∃ k t, zs[i]? = some k ∧ v = .int k t := fun i v hv => by
          have hi : i < zs.length := by rw [← hsz]; exact (Array.getElem?_eq_some_iff.mp hv).1
          obtain ⟨t, e⟩ := IntsAre.int_at hI i v (by rw [Array.getElem?_toList]; exact hv)
          exact ⟨zs[i], t, List.getElem?_eq_getElem hi, by rw [e, List.getD_eq_getElem?_getD, List.getElem?_eq_getElem hi]; rfl⟩
        refine set_update_ints ((Walks.list hA3 _ l nI its).toS) s.heap.objs.size nS zs hsz hb val (its.size - 0) 0 _ (by omega) (Nat.zero_le _) ⟨⟨_, Heap.get?_push_size _ rfl, rfl, rfl⟩, (hL1.push _)⟩ ?g0 ?gR
        case g0 => exact ⟨0, Nat.le_refl 0, sob_at (Heap.get?_push_of_some _ gS)⟩
        case gR =>
          intro t3 c hm hc hS
          obtain ⟨g, g2, d, tk, o⟩ := t3
          have q1 : g2 = s.gens := hm.gens
          have q2 : d = s.drawn := hm.drawn
          have q3 : o = s.os := hm.os
          subst q1 q2 q3
          show wpAny _ _ _ _ _ _
          refine wpAny_pure ?_
          rw [hsz] at hc
          show wpAny _ _ (ret Value.none) _ _ _
          refine wpAny_pure ⟨rfl, g, tk, c, rfl, hS, hc, fun b o e => ?_⟩
          have b0 : b < s.heap.objs.size := Heap.lt_size e
          refine hm.heap b o ?_ (Heap.get?_push_of_some _ (Heap.get?_push_of_some _ e))
          simp only [List.mem_cons, List.not_mem_nil, or_false, not_or, Heap.size_push]
          exact ⟨Nat.ne_of_lt b0, Nat.ne_of_lt (Nat.lt_succ_of_lt b0)⟩
      · cases r2 with
        | error e => exact hr2
        | ok f2 => cases f2 with
          | ret r =>
            obtain ⟨rfl, g, t, c, rfl, hS, hc, hk⟩ := hr2
            repeat (any_goals (first | assumption | wp_step))
            exact hQ _ _ _ hS hc hk
          | _ => exact hr2.elim
    | _ => exact hr.elim
/-- sorted(a) of a set of ints, however many -/
theorem sorted_of_set {a : Addr} {S : Int → Bool} {n : Nat} {Q : Value → Shared → Prop} (R : SetR w s.heap a S n) (hA : A.handled = none)
    (hQ : ∀ t p (out : Array Value) (c : Nat) (zs : List Int), (∀ b o, s.heap.get? b = some o → t.heap.get? b = some o) → t.gens = s.gens → t.os = s.os → s.heap.objs.size ≤ p → t.heap.get? p = some (seqObj "list" out c) → IntsAre out.toList zs → zs.Pairwise (· < ·) → (∀ k, k ∈ zs ↔ S k = true) → zs.length ≤ sizeLine → Q (.ref p) t) :
    wpAny (model P w) A (call (.builtin "sorted") [.ref a]) Q E s := by
  obtain ⟨o, es, ep, t, ho, hx, hd, g, nd, hm, hb, hf, hn, hr, hl⟩ := R
  refine Calls.call_function_entry kind_sorted plain_sorted entry_sorted (args_sorted1 _) ?_
  unfold Builtin.«sorted»
  refine wpAny_bind (m := checkCount "sorted" 1 1 _) (wpAny_pure (wpAny_bind (collect_set (A := A.in1) hA ⟨o, ho, hx.1, hd⟩ hf hb hr hl fun t1 vs j1 hz j2 j3 pm => ?_)))
  have vl : vs.length = n := by rw [pm.length_eq, List.length_map, Array.length_toList]; exact hn
  have vi : IntsAre vs (vs.map Builtin.Re.reRawOf) := ints_of vs fun v hv => by
    obtain ⟨e, he, q⟩ := List.mem_map.mp (pm.mem_iff.mp hv)
    obtain ⟨k, tk, z, _⟩ := g e he
    exact ⟨k, tk, q ▸ z⟩
  have pk : (vs.map Builtin.Re.reRawOf).Perm (es.toList.map keyOf) := by
    have z := pm.map Builtin.Re.reRawOf
    rwa [List.map_map] at z
  have hsl : vs.length ≤ sizeLine := by rw [vl, sizeLine_eq, ← hn]; exact Nat.le_trans (Nat.le_of_lt hb) (by decide)
  refine wpAny_bind (wpAny_newList ?_ hsl)
  have oL : (t1.heap.push (seqObj "list" vs.toArray 0)).get? t1.heap.objs.size = some (seqObj "list" vs.toArray 0) := Heap.get?_push_size _ rfl
  refine wpAny_bind (wpAny_holding (wpAny_call_entry slot_list_sort ⟨_, oL, rfl⟩ entry_list_sort (SrtO.list_sort_ord SrtO.swo_int oL hsl (fun h2 => SrtO.ints_sortable vi h2) fun out h1 h2 => ⟨_, rfl, ?_⟩) (args_list_sort _)))
  obtain ⟨i1, i2, i3⟩ := SrtO.ints_out vi h1 h2
  obtain ⟨c, hc⟩ := sortedHeap_at (vs := vs) (out := out.toArray) oL
  have pn := i2.trans pk
  have lt : (out.map SrtO.iv).Pairwise (· < ·) := lt_of_le_nodup _ i3 (pn.nodup_iff.mpr nd)
  refine wpAny_pure ⟨_, rfl, hQ _ t1.heap.objs.size out.toArray c _ (fun b u e => ?_) j2 j3 hz hc (by simpa using i1) lt (fun k => by rw [pn.mem_iff, ← hm k]) (by rw [i2.length_eq, List.length_map]; exact hsl)⟩
  have z := j1 b u e
  have bl := Heap.lt_size z
  show (sortedHeap (t1.heap.push (seqObj "list" vs.toArray 0)) t1.heap.objs.size vs out.toArray).get? b = some u
  rw [sortedHeap_old (Nat.ne_of_lt bl) (by rw [size_push']; exact Nat.lt_succ_of_lt bl)]
  exact Heap.get?_push_of_some _ z
end
section
variable {X : Cx}
def rSetL (w : World) : List V → Hp → VK → Prop := fun xs H Q => ∃ (l : Addr) (zs : List Int), xs = [V.ref l] ∧ SqL X.K H l (zs.map V.int) ∧ zs.length + 1 < scanBound ∧ ∀ a c, H a = none → c ≤ zs.length → Q (.ref a) (upd H a (SetO w a (fun j => decide (j ∈ zs)) c))
theorem cr_setL (hc : X.calm = true) : CallR X (.type "set") (rSetL (X := X) X.w) := by
  intro pins s σ H xs us Q I r h
  obtain ⟨l, zs, rfl, hl, hb, q⟩ := h
  rw [Vals.ref1 r]
  obtain ⟨its, rv, pl, hz⟩ := I.list hl
  refine set_of_list zs (I.ok.hd hc) pl.isList (by simpa using rv.ints) hb fun g t c R hcl k => ?_
  exact ⟨.ref _, upd H s.heap.objs.size (SetO X.w s.heap.objs.size (fun j => decide (j ∈ zs)) c), I.laid (t' := t) k (Nat.le_refl _) (setO_new R), rfl, q _ c (I.hok.fresh (Nat.le_refl _)) hcl⟩
def rSortedS2 (w : World) : List V → Hp → VK → Prop := fun vs H Q => ∃ (a : Addr) (S : Int → Bool) (n : Nat), vs = [V.ref a] ∧ H a = some (SetO w a S n) ∧
  ∀ (zs : List Int) (p : Addr), zs.Pairwise (· < ·) → (∀ k : Int, k ∈ zs ↔ S k = true) → H p = none → Q (.ref p) (upd H p (.lst (zs.map V.int)))
theorem cr_sortedS2 (hc : X.calm = true) : CallR X (.builtin "sorted") (rSortedS2 X.w) := by
  intro pins s σ H vs us Q I r h
  obtain ⟨a, S, n, rfl, ha, q⟩ := h
  rw [Vals.ref1 r]
  refine sorted_of_set (setO_get I ha) (I.ok.hd hc) fun t p out c zs k g o hp hg hi hs hm hl => ?_
  have hn : H p = none := I.hok.fresh hp
  have hlen : (zs.map V.int).length ≤ sizeLine := by rw [List.length_map]; exact hl
  have J : Inv X pins σ (upd H p (.lst (zs.map V.int))) { s with heap := t.heap, gens := t.gens, drawn := t.drawn, toks := t.toks } := I.call (ch := []) (Un.laid k hp hn) (I.hok.laid k hp ⟨hlen, out.toList, c, vals_of_ints hi, hg⟩) (by rw [g]; exact I.bare) (fun _ z => nomatch z)
  have e : t = { s with heap := t.heap, gens := t.gens, drawn := t.drawn, toks := t.toks } := by
    cases t; cases s; cases o; rfl
  rw [e]
  exact ⟨.ref p, _, J, rfl, q zs p hs hm hn⟩
end
/-! ### as plain functions -/
def dedI : List Int → List Int
  | [] => []
  | x :: xs => if x ∈ xs then dedI xs else x :: dedI xs
theorem dedI_mem : ∀ {xs : List Int} {k : Int}, k ∈ dedI xs ↔ k ∈ xs
  | [], k => Iff.rfl
  | x :: xs, k => by
    have ih := dedI_mem (xs := xs) (k := k)
    unfold dedI
    split
    · rename_i h
      rw [ih, List.mem_cons]
      exact ⟨.inr, fun z => z.elim (fun e => e ▸ h) id⟩
    · rw [List.mem_cons, List.mem_cons, ih]
theorem dedI_nodup : ∀ xs : List Int, (dedI xs).Nodup
  | [] => List.nodup_nil
  | x :: xs => by
    unfold dedI
    split
    · exact dedI_nodup xs
    · rename_i h
      exact List.nodup_cons.mpr ⟨fun z => h (dedI_mem.mp z), dedI_nodup xs⟩
theorem dedI_len : ∀ xs : List Int, (dedI xs).length ≤ xs.length
  | [] => Nat.le_refl _
  | x :: xs => by
    have := dedI_len xs
    unfold dedI
    split
    · rw [List.length_cons]; omega
    · rw [List.length_cons, List.length_cons]; omega
/-- sorted(set(..)) of ints -/
def srtS (xs : List Int) : List Int := sortI (dedI xs)
theorem srtS_mem {xs : List Int} {k : Int} : k ∈ srtS xs ↔ k ∈ xs := by
  unfold srtS
  rw [(sortI_perm _).mem_iff, dedI_mem]
theorem srtS_lt (xs : List Int) : (srtS xs).Pairwise (· < ·) := lt_of_le_nodup _ (sortI_sorted _) ((sortI_perm _).nodup_iff.mpr (dedI_nodup xs))
theorem srtS_len (xs : List Int) : (srtS xs).length ≤ xs.length := by
  unfold srtS
  rw [(sortI_perm _).length_eq]; exact dedI_len xs
/-- rows that ascend, with the same members, are one -/
theorem asc_uniq {α : Type} {lt : α → α → Prop} (irr : ∀ x, ¬ lt x x) (tr : ∀ x y z, lt x y → lt y z → lt x z) : ∀ {xs ys : List α}, xs.Pairwise lt → ys.Pairwise lt → (∀ k, k ∈ xs ↔ k ∈ ys) → xs = ys
  | [], [], _, _, _ => rfl
  | [], y :: ys, _, _, h => absurd ((h y).mpr List.mem_cons_self) List.not_mem_nil
  | x :: xs, [], _, _, h => absurd ((h x).mp List.mem_cons_self) List.not_mem_nil
  | x :: xs, y :: ys, hx, hy, h => by
    obtain ⟨x1, x2⟩ := List.pairwise_cons.mp hx
    obtain ⟨y1, y2⟩ := List.pairwise_cons.mp hy
    have e : x = y := by
      rcases List.mem_cons.mp ((h x).mp List.mem_cons_self) with z | z
      · exact z
      · rcases List.mem_cons.mp ((h y).mpr List.mem_cons_self) with v | v
        · exact v.symm
        · exact absurd (tr _ _ _ (x1 y v) (y1 x z)) (irr x)
    subst e
    rw [asc_uniq irr tr x2 y2 fun k => ?_]
    constructor
    · intro hk
      rcases List.mem_cons.mp ((h k).mp (List.mem_cons_of_mem _ hk)) with z | z
      · subst z; exact absurd (x1 k hk) (irr k)
      · exact z
    · intro hk
      rcases List.mem_cons.mp ((h k).mpr (List.mem_cons_of_mem _ hk)) with z | z
      · subst z; exact absurd (y1 k hk) (irr k)
      · exact z
theorem srtS_uniq {xs zs : List Int} (h : zs.Pairwise (· < ·)) (hm : ∀ k, k ∈ zs ↔ k ∈ xs) : zs = srtS xs :=
  asc_uniq (lt := (· < ·)) (fun x => Int.lt_irrefl x) (fun _ _ _ a b => Int.lt_trans a b) h (srtS_lt xs) fun k => by rw [hm, srtS_mem]
/-- pairs, by their first, then by their second -/
def lexP (x y : Int × Int) : Prop := x.1 < y.1 ∨ (x.1 = y.1 ∧ x.2 < y.2)
instance (x y : Int × Int) : Decidable (lexP x y) := by unfold lexP; infer_instance
theorem lexP_irr (x : Int × Int) : ¬ lexP x x := by unfold lexP; omega
theorem lexP_tr (x y z : Int × Int) (h1 : lexP x y) (h2 : lexP y z) : lexP x z := by unfold lexP at *; omega
def insP (x : Int × Int) : List (Int × Int) → List (Int × Int)
  | [] => [x]
  | y :: r => if lexP x y then x :: y :: r else if x = y then y :: r else y :: insP x r
/-- sorted(set(..)) of pairs -/
def srtP : List (Int × Int) → List (Int × Int)
  | [] => []
  | x :: r => insP x (srtP r)
theorem insP_mem {x k : Int × Int} : ∀ {r : List (Int × Int)}, k ∈ insP x r ↔ k = x ∨ k ∈ r
  | [] => by simp [insP]
  | y :: r => by
    have ih := insP_mem (x := x) (k := k) (r := r)
    unfold insP
    split
    · simp
    · split
      · rename_i e
        subst e
        simp
      · rw [List.mem_cons, ih, List.mem_cons]
        constructor
        · rintro (a | a | a)
          · exact .inr (.inl a)
          · exact .inl a
          · exact .inr (.inr a)
        · rintro (a | a | a)
          · exact .inr (.inl a)
          · exact .inl a
          · exact .inr (.inr a)
theorem srtP_mem {k : Int × Int} : ∀ {xs : List (Int × Int)}, k ∈ srtP xs ↔ k ∈ xs
  | [] => Iff.rfl
  | x :: r => by
    show k ∈ insP x (srtP r) ↔ _
    rw [insP_mem, srtP_mem, List.mem_cons]
theorem insP_asc {x : Int × Int} : ∀ {r : List (Int × Int)}, r.Pairwise lexP → (insP x r).Pairwise lexP
  | [], _ => by simp [insP]
  | y :: r, h => by
    obtain ⟨h1, h2⟩ := List.pairwise_cons.mp h
    unfold insP
    split
    · rename_i hl
      refine List.pairwise_cons.mpr ⟨fun k hk => ?_, h⟩
      rcases List.mem_cons.mp hk with e | e
      · rw [e]; exact hl
      · exact lexP_tr _ _ _ hl (h1 k e)
    · split
      · exact h
      · rename_i n1 n2
        refine List.pairwise_cons.mpr ⟨fun k hk => ?_, insP_asc h2⟩
        rcases insP_mem.mp hk with e | e
        · subst e
          unfold lexP at *
          have : ¬ (k.1 = y.1 ∧ k.2 = y.2) := fun z => n2 (Prod.ext z.1 z.2)
          omega
        · exact h1 k e
theorem srtP_asc : ∀ xs : List (Int × Int), (srtP xs).Pairwise lexP
  | [] => List.Pairwise.nil
  | x :: r => insP_asc (srtP_asc r)
theorem srtP_uniq {xs zs : List (Int × Int)} (h : zs.Pairwise lexP) (hm : ∀ k, k ∈ zs ↔ k ∈ xs) : zs = srtP xs :=
  asc_uniq lexP_irr lexP_tr h (srtP_asc xs) fun k => by rw [hm, srtP_mem]
def allP : List PV → Option (List (Int × Int))
  | [] => some []
  | .tup [.int a, .int b] :: r => if 0 ≤ a ∧ 0 ≤ b then (allP r).map fun ps => (a, b) :: ps else none
  | _ => none
def sortSetP (xs : List PV) (μ : Mu) : R PV := match allI xs with
  | some zs => if zs.length < 4000 then .ok (.lst ((srtS zs).map .int)) μ else .bad
  | none => match allP xs with
    | some ps => if ps.length < 64 then .ok (.lst ((srtP ps).map fun p => .tup [.int p.1, .int p.2])) μ else .bad
    | none => .bad
def fSortSet (x : PV) (μ : Mu) : R PV := match lstP x μ with
  | some xs => sortSetP xs μ
  | none => .bad
section
variable {K : PySem.W.Frag} {ι : Io} {H : Hp} {μ : Mu}
theorem allP_rep : ∀ {xs : List PV} {vs : List V} {ps : List (Int × Int)}, RepL K ι H xs vs → allP xs = some ps →
    ∃ ks : List (Addr × List Int), vs = ks.map (fun p => V.ref p.1) ∧ ks.map (·.2) = ps.map (fun p => [p.1, p.2]) ∧ (∀ p ∈ ks, SqT K H p.1 (p.2.map V.int)) ∧ ∀ p ∈ ps, 0 ≤ p.1 ∧ 0 ≤ p.2
  | [], vs, ps, h, e => by
    cases e
    rw [show vs = [] from h]
    exact ⟨[], rfl, rfl, fun p hp => absurd hp List.not_mem_nil, fun p hp => absurd hp List.not_mem_nil⟩
  | x :: xs, vs, ps, ⟨v, r, ev, hx, hr⟩, e => by
    subst ev
    unfold allP at e
    split at e
    · rename_i z
      cases z
    · rename_i a b r' z
      cases z
      split at e
      · rename_i hab
        cases q : allP xs with
        | none => rw [q] at e; cases e
        | some qs =>
          rw [q] at e
          cases e
          obtain ⟨ks, h1, h2, h3, h4⟩ := allP_rep hr q
          obtain ⟨t, us, rfl, ht, hu⟩ := hx
          obtain ⟨u1, u2, e1, r1, r2⟩ := two_rep hu
          subst e1
          refine ⟨(t, [a, b]) :: ks, by rw [h1]; rfl, by rw [List.map_cons, h2]; rfl, fun p hp => ?_, fun p hp => ?_⟩
          · rcases List.mem_cons.mp hp with y | y
            · subst y
              have e1 : u1 = .int a := r1
              have e2 : u2 = .int b := r2
              rw [e1, e2] at ht
              exact ht
            · exact h3 p y
          · rcases List.mem_cons.mp hp with y | y
            · subst y; exact hab
            · exact h4 p y
      · cases e
    · cases e
theorem pair_bd : ∀ ps : List (Int × Int), (∀ p ∈ ps, 0 ≤ p.1 ∧ 0 ≤ p.2) → ∃ B : Int, ∀ p ∈ ps, TS.Bd B [p.1, p.2]
  | [], _ => ⟨0, fun p hp => absurd hp List.not_mem_nil⟩
  | p :: ps, h => by
    obtain ⟨B, hB⟩ := pair_bd ps fun q hq => h q (List.mem_cons_of_mem _ hq)
    have hp := h p List.mem_cons_self
    refine ⟨(if 0 ≤ B then B else 0) + p.1 + p.2 + 1, fun q hq m hm => ?_⟩
    have hs : B ≤ (if 0 ≤ B then B else 0) ∧ 0 ≤ (if 0 ≤ B then B else 0) := by split <;> omega
    rcases List.mem_cons.mp hq with y | y
    · subst y
      rcases List.mem_cons.mp hm with z | z
      · omega
      · have := List.mem_singleton.mp z; omega
    · have := hB q y m hm
      omega
end
section
variable {X : Cx} {W : WS} {e : Expr} {p p2 pos cpos : Pos} {d : Dn PV}
theorem e_sortSet (hm : X.mg "sorted" = none) (hm2 : X.mg "set" = none) (hu : X.A.units + 64 < cLine) (ha : PE X e (LE X.K W d)) (hc : X.calm = true := by rfl) (hg : Gl X "sorted" := by rfl) (hg2 : Gl X "set" := by rfl)
    (n1 : starEach [e] X.env = (false, eval e X.env) :: starEach [] X.env := by rfl) (n2 : (backTo cpos (starEach [] X.env)).any (·.1) = false := by rfl)
    (n3 : starEach [.Call (.Name "set" p2) [e] [] cpos] X.env = (false, eval (.Call (.Name "set" p2) [e] [] cpos) X.env) :: starEach [] X.env := by rfl) (n4 : (backTo pos (starEach [] X.env)).any (·.1) = false := by rfl) :
    PE X (.Call (.Name "sorted" p) [.Call (.Name "set" p2) [e] [] cpos] [] pos) (LE X.K W (dUn fSortSet d)) := by
  refine (pe_callB (r := fun xs H Q => rSortedS2 X.w xs H Q ∨ rSortedT X.K X.prog X.w xs H Q) ((cr_sortedS2 hc).or (cr_sortedT hc)) hg hm (by decide +kernel) (pa_cons (pe_callTy (r := fun xs H Q => rSetL (X := X) X.w xs H Q ∨ rSetOfT X.K X.prog X.w xs H Q) ((cr_setL hc).or (cr_setOfT hc hu)) hg2 hm2 (by decide +kernel) (pa_cons ha pa_nil n1) (by decide) (by decide) n1 n2) pa_nil n3) (by decide) (by decide) n3 n4).mono fun σ H Q h => ?_
  obtain ⟨ρ, μ, ι, sr, hr, h⟩ := h
  show LE X.K W d σ H _
  refine ⟨ρ, μ, ι, sr, hr, Post.mono (Post.bind h) ?_⟩
  rintro v H1 ⟨x, μ1, ι1, g1, hr1, r1, h1⟩
  unfold fSortSet at h1
  cases ex : lstP x μ1 with
  | none => rw [ex] at h1; exact h1.elim
  | some xs =>
    rw [ex] at h1
    have h1 : Post X.K (W σ) (fun ι H => Rep X.K ι H) ι1 H1 (sortSetP xs μ1) Q := h1
    obtain ⟨l, vs, rfl, sq, rv, _⟩ := lstP_sq hr1 r1 ex
    unfold sortSetP at h1
    cases ei : allI xs with
    | some zs =>
      rw [ei] at h1
      simp only at h1
      split at h1
      · rename_i hz
        have hv := allI_rep rv ei
        subst hv
        left
        refine ⟨l, zs, rfl, sq, by unfold scanBound; omega, fun a c hn hcl => ?_⟩
        left
        refine ⟨a, fun j => decide (j ∈ zs), c, rfl, upd_same, fun ys q hs hmm hn2 => ?_⟩
        have ey := srtS_uniq (xs := zs) hs fun k => by rw [hmm k, decide_eq_true_eq]
        subst ey
        have g2 : Grow X.K ι1 H1 ι1 (upd H1 a (SetO X.w a (fun j => decide (j ∈ zs)) c)) := grow_new hn
        have hr2 := hr1.new (o := SetO X.w a (fun j => decide (j ∈ zs)) c) hn
        exact h1.at_ (g2.trans (grow_new hn2)) (hr2.new hn2) (new_lst hr2 hn2 (rep_ints _))
      · exact h1.elim
    | none =>
      rw [ei] at h1
      simp only at h1
      cases ep : allP xs with
      | none => rw [ep] at h1; exact h1.elim
      | some ps =>
        rw [ep] at h1
        simp only at h1
        split at h1
        · rename_i hz
          obtain ⟨ks, k1, k2, k3, k4⟩ := allP_rep rv ep
          subst k1
          have kl : ks.length = ps.length := by
            have := congrArg List.length k2
            simpa using this
          right
          refine ⟨l, ks, rfl, sq, k3, by omega, fun a L hn l1 l2 => ?_⟩
          right
          obtain ⟨B, hB⟩ := pair_bd ps k4
          have kp : ∀ q ∈ ks, ∃ r ∈ ps, q.2 = [r.1, r.2] := fun q hq => by
            have : q.2 ∈ ks.map (·.2) := List.mem_map.mpr ⟨q, hq, rfl⟩
            rw [k2] at this
            obtain ⟨r, r1, r2⟩ := List.mem_map.mp this
            exact ⟨r, r1, r2.symm⟩
          have g2 : Grow X.K ι1 H1 ι1 (upd H1 a (SetTO X.prog X.w a L)) := grow_new hn
          have hr2 := hr1.new (o := SetTO X.prog X.w a L) hn
          refine ⟨a, L, 2, B, rfl, upd_same, fun q hq => g2.tup _ _ (k3 q (l1 q hq)), by decide, fun q hq => ?_, fun L' q hL nd h64 hs hn2 => ?_⟩
          · obtain ⟨r, r1, r2⟩ := kp q (l1 q hq)
            rw [r2]
            exact ⟨rfl, hB r r1⟩
          -- the rows, as pairs
          have kL : ∀ q ∈ L', ∃ r ∈ ps, q.2 = [r.1, r.2] := fun q hq => kp q (l1 q (hL.mem_iff.mp hq))
          obtain ⟨rs, hrs⟩ : ∃ rs : List (Int × Int), L'.map (·.2) = rs.map fun r => [r.1, r.2] := by
            clear hs nd hL h64
            induction L' with
            | nil => exact ⟨[], rfl⟩
            | cons q L' ih =>
              obtain ⟨r, _, r2⟩ := kL q List.mem_cons_self
              obtain ⟨rs, h⟩ := ih fun q hq => kL q (List.mem_cons_of_mem _ hq)
              exact ⟨r :: rs, by rw [List.map_cons, h, r2]; rfl⟩
          have inj : ∀ r s : Int × Int, [r.1, r.2] = [s.1, s.2] → r = s := fun r s h => by
            injection h with h1 h2
            injection h2 with h2 _
            exact Prod.ext h1 h2
          have mem : ∀ r, r ∈ rs ↔ r ∈ ps := fun r => by
            have m1 : r ∈ rs ↔ [r.1, r.2] ∈ L'.map (·.2) := by
              rw [hrs, List.mem_map]
              exact ⟨fun z => ⟨r, z, rfl⟩, fun ⟨s, z, e⟩ => by rw [← inj s r e]; exact z⟩
            have m2 : r ∈ ps ↔ [r.1, r.2] ∈ ks.map (·.2) := by
              rw [k2, List.mem_map]
              exact ⟨fun z => ⟨r, z, rfl⟩, fun ⟨s, z, e⟩ => by rw [← inj s r e]; exact z⟩
            rw [m1, m2]
            constructor
            · intro z
              obtain ⟨q, q1, q2⟩ := List.mem_map.mp z
              exact List.mem_map.mpr ⟨q, l1 q (hL.mem_iff.mp q1), q2⟩
            · intro z
              obtain ⟨q, q1, q2⟩ := List.mem_map.mp z
              have := l2 q q1
              obtain ⟨q', q3, q4⟩ := List.mem_map.mp this
              exact List.mem_map.mpr ⟨q', hL.mem_iff.mpr q3, q4.trans q2⟩
          have asc : rs.Pairwise lexP := by
            have a1 : (L'.map (·.2)).Pairwise fun u v => TS.code B u ≤ TS.code B v := List.pairwise_map.mpr hs
            have a2 := nd
            rw [hrs] at a1 a2
            have a3 := List.pairwise_map.mp a1
            have a4 : rs.Pairwise fun r s => [r.1, r.2] ≠ [s.1, s.2] := List.pairwise_map.mp a2
            refine List.Pairwise.imp_of_mem ?_ (a3.and a4)
            rintro r s hr hs ⟨c1, c2⟩
            have b1 := hB r ((mem r).mp hr)
            have b2 := hB s ((mem s).mp hs)
            have := code_lex b1 b2 c1
            unfold lexP
            have ne : ¬ (r.1 = s.1 ∧ r.2 = s.2) := fun z => c2 (by rw [z.1, z.2])
            omega
          have ers := srtP_uniq asc mem
          subst ers
          have g3 := grow_new (K := X.K) (ι := ι1) (o := HO.lst (L'.map fun q => V.ref q.1)) hn2
          refine h1.at_ (g2.trans g3) (hr2.new hn2) (new_lst hr2 hn2 ?_)
          have rows : ∀ q ∈ L', SqT X.K (upd H1 a (SetTO X.prog X.w a L)) q.1 (q.2.map V.int) := fun q hq => g2.tup _ _ (k3 q (l1 q (hL.mem_iff.mp hq)))
          clear hs nd hL h64 kL mem asc h1 h g3
          generalize srtP ps = rs at *
          induction L' generalizing rs with
          | nil => cases rs with
            | nil => exact RepL.nil_
            | cons _ _ => cases hrs
          | cons q L' ih => cases rs with
            | nil => cases hrs
            | cons r rs =>
              rw [List.map_cons, List.map_cons] at hrs
              injection hrs with e1 e2
              refine RepL.cons_ ⟨q.1, q.2.map V.int, rfl, rows q List.mem_cons_self, ?_⟩ (ih (fun q hq => rows q (List.mem_cons_of_mem _ hq)) rs e2)
              rw [e1]
              exact RepL.cons_ rfl (RepL.cons_ rfl RepL.nil_)
        · exact h1.elim
end
end GB
set_option Elab.async false
set_option linter.all false
set_option maxRecDepth 100000
set_option maxHeartbeats 2000000
namespace GB
open PySem L2
/-! ### rows that add as much each time, plainly -/
def lapA (s a : Int) : Int := if 2 * s ≤ a then 2 else if s ≤ 2 * a then 3 else 4
def aheadA (s a : Int) : Int := lapA s a + 1
def pf (s z m : Int) : Int := z * m + s * (m * (m - 1) / 2)
def inA (s a n : Int) : Int × Int := if n < aheadA s a then (0, n) else (n - (n - aheadA s a) % 3, (n - aheadA s a) % 3)
def sizeA (s a n : Int) : Int := a + s * n
def placeA (s a n : Int) : Int := pf s (sizeA s a (inA s a n).1) (inA s a n).2
def endA (s a n : Int) : Int := pf s (sizeA s a (inA s a n).1) ((inA s a n).2 + 1)
theorem ahead_3 (s a : Int) : 3 ≤ aheadA s a ∧ aheadA s a ≤ 5 := by
  unfold aheadA lapA
  split
  · omega
  · split <;> omega
theorem pf0 (s z : Int) : pf s z 0 = 0 := by simp [pf]
theorem pf1 (s z : Int) : pf s z 1 = z := by simp [pf]
theorem pf2 (s z : Int) : pf s z 2 = 2 * z + s := by simp [pf]; omega
theorem pf3 (s z : Int) : pf s z 3 = 3 * z + 3 * s := by
  have : (3 : Int) * (3 - 1) / 2 = 3 := by decide
  simp only [pf, this]; omega
theorem pf4 (s z : Int) : pf s z 4 = 4 * z + 6 * s := by
  have : (4 : Int) * (4 - 1) / 2 = 6 := by decide
  simp only [pf, this]; omega
theorem pf5 (s z : Int) : pf s z 5 = 5 * z + 10 * s := by
  have : (5 : Int) * (5 - 1) / 2 = 10 := by decide
  simp only [pf, this]; omega
/-- where a growth stands: in the first lap, or so many behind a BACK -/
inductive At (s a : Int) (n : Int) : Prop where
  | first (h0 : 0 ≤ n) (h1 : n < aheadA s a) (e : inA s a n = (0, n))
  | later (b m : Int) (hb : aheadA s a ≤ b) (hm : m = 0 ∨ m = 1 ∨ m = 2) (hn : n = b + m) (hd : (b - aheadA s a) % 3 = 0) (e : inA s a n = (b, m))
theorem at_ (s a : Int) {n : Int} (h0 : 0 ≤ n) : At s a n := by
  by_cases h : n < aheadA s a
  · exact .first h0 h (by unfold inA; rw [if_pos h])
  · have e : inA s a n = (n - (n - aheadA s a) % 3, (n - aheadA s a) % 3) := by unfold inA; rw [if_neg h]
    exact .later _ _ (by omega) (by omega) (by omega) (by omega) e
theorem in_later {s a b m : Int} (hb : aheadA s a ≤ b) (hm : m = 0 ∨ m = 1 ∨ m = 2) (hd : (b - aheadA s a) % 3 = 0) : inA s a (b + m) = (b, m) := by
  unfold inA
  rw [if_neg (by omega)]
  have : (b + m - aheadA s a) % 3 = m := by omega
  rw [this]
  exact Prod.ext (by simp) rfl
theorem in_first {s a n : Int} (h : n < aheadA s a) : inA s a n = (0, n) := by unfold inA; rw [if_pos h]
/-- the next block's place, from one growth to the next -/
theorem placeA_step {s a n : Int} (hs : 1 ≤ s) (ha : 1 ≤ a) (h0 : 0 ≤ n) : placeA s a (n + 1) = if sizeA s a (n + 1) ≤ placeA s a n then 0 else placeA s a n + sizeA s a n := by
  cases at_ s a h0 with
  | first _ h1 e =>
    have hL := ahead_3 s a
    unfold placeA
    rw [e]
    by_cases h2 : n + 1 < aheadA s a
    · rw [in_first h2]
      simp only [sizeA, Int.mul_zero, Int.add_zero]
      have c : n = 0 ∨ n = 1 ∨ n = 2 ∨ n = 3 := by omega
      rcases c with rfl | rfl | rfl | rfl
      · simp only [pf0, pf1, Int.zero_add, Int.mul_one, Int.mul_zero, Int.add_zero]
        rw [if_neg (by omega)]
      · simp only [pf1, pf2, show (1 : Int) + 1 = 2 from rfl, Int.mul_one]
        rw [if_neg (by omega)]
        omega
      · simp only [pf2, pf3, show (2 : Int) + 1 = 3 from rfl]
        have : ¬ a + s * 3 ≤ 2 * a + s := by
          unfold aheadA lapA at h2
          split at h2 <;> omega
        rw [if_neg this]
        omega
      · simp only [pf3, pf4, show (3 : Int) + 1 = 4 from rfl]
        have : ¬ a + s * 4 ≤ 3 * a + 3 * s := by
          unfold aheadA lapA at h2
          split at h2
          · omega
          · split at h2 <;> omega
        rw [if_neg this]
        omega
    · have hn : n + 1 = aheadA s a + 0 := by omega
      rw [hn, in_later (Int.le_refl _) (.inl rfl) (by simp)]
      simp only [pf0, Int.add_zero, sizeA, Int.mul_zero]
      rw [if_pos]
      have hn2 : n = aheadA s a - 1 := by omega
      rw [hn2]
      unfold aheadA lapA
      split
      · simp only [show (2 : Int) + 1 - 1 = 2 from rfl, pf2]; omega
      · split
        · simp only [show (3 : Int) + 1 - 1 = 3 from rfl, pf3]; omega
        · simp only [show (4 : Int) + 1 - 1 = 4 from rfl, pf4]; omega
  | later b m hb hm hn hd e =>
    have hL := ahead_3 s a
    have hX : 3 * s ≤ s * b := by
      have := Int.mul_le_mul_of_nonneg_left (show (3 : Int) ≤ b by omega) (show (0 : Int) ≤ s by omega)
      omega
    unfold placeA
    rw [e]
    subst hn
    rcases hm with rfl | rfl | rfl
    · rw [show b + 0 + 1 = b + 1 by omega, in_later hb (.inr (.inl rfl)) hd]
      simp only [pf0, pf1, sizeA, Int.mul_add, Int.add_zero, Int.mul_one]
      rw [if_neg (by omega)]
      omega
    · rw [show b + 1 + 1 = b + 2 by omega, in_later hb (.inr (.inr rfl)) hd]
      simp only [pf1, pf2, sizeA, Int.mul_add, Int.mul_one]
      rw [if_neg (by omega)]
      omega
    · rw [show b + 2 + 1 = (b + 3) + 0 by omega, in_later (by omega) (.inl rfl) (by omega)]
      simp only [pf0, pf2, sizeA, Int.mul_add, Int.mul_zero, Int.add_zero]
      rw [if_pos (by omega)]
theorem nxt_one (s x : Int) : nxt 1 1 s x = x + s := by simp [nxt]
theorem blk_add {s a : Int} (hs : 1 ≤ s) (ha : 1 ≤ a) : ∀ k : Nat, blk 1 1 s a k = (placeA s a k, sizeA s a k)
  | 0 => by
    have hL := ahead_3 s a
    unfold placeA
    rw [in_first (by simp; omega)]
    simp [blk, pf0, sizeA]
  | k + 1 => by
    have e : sizeA s a ((k : Int) + 1) = sizeA s a k + s := by simp only [sizeA, Int.mul_add, Int.mul_one]; omega
    rw [blk_S, blk_add hs ha k]
    simp only [nxt_one]
    rw [show ((k + 1 : Nat) : Int) = (k : Int) + 1 by omega, placeA_step hs ha (by omega), ← e]
    split <;> rfl
/-- the end of a block -/
theorem endA_eq {s a n : Int} (h0 : 0 ≤ n) : endA s a n = placeA s a n + sizeA s a n := by
  unfold endA placeA
  cases at_ s a h0 with
  | first h0 h1 e =>
    have hL := ahead_3 s a
    rw [e]
    simp only [sizeA, Int.mul_zero, Int.add_zero]
    have c : n = 0 ∨ n = 1 ∨ n = 2 ∨ n = 3 ∨ n = 4 := by omega
    rcases c with rfl | rfl | rfl | rfl | rfl
    · simp [pf0, pf1]
    · simp only [show (1 : Int) + 1 = 2 from rfl, pf1, pf2]; omega
    · simp only [show (2 : Int) + 1 = 3 from rfl, pf2, pf3]; omega
    · simp only [show (3 : Int) + 1 = 4 from rfl, pf3, pf4]; omega
    · simp only [show (4 : Int) + 1 = 5 from rfl, pf4, pf5]; omega
  | later b m hb hm hn hd e =>
    rw [e]
    subst hn
    rcases hm with rfl | rfl | rfl
    · simp [pf0, pf1, sizeA]
    · simp only [show (1 : Int) + 1 = 2 from rfl, pf1, pf2, sizeA, Int.mul_add, Int.mul_one]; omega
    · simp only [show (2 : Int) + 1 = 3 from rfl, pf2, pf3, sizeA, Int.mul_add]; omega
/-- the greatest end so far -/
def markA (s a n : Int) : Int := if (inA s a n).1 = 0 then endA s a n else
  if endA s a ((inA s a n).1 - 1) > endA s a n then endA s a ((inA s a n).1 - 1) else endA s a n
theorem endA_first {s a n : Int} (h : n < aheadA s a) : endA s a n = pf s a (n + 1) := by
  unfold endA
  rw [in_first h]
  simp [sizeA]
theorem endA_later {s a b m : Int} (hb : aheadA s a ≤ b) (hm : m = 0 ∨ m = 1 ∨ m = 2) (hd : (b - aheadA s a) % 3 = 0) : endA s a (b + m) = pf s (sizeA s a b) (m + 1) := by
  unfold endA
  rw [in_later hb hm hd]
/-- one lap behind the other the ends grow -/
theorem end_laps {s a b : Int} (hs : 1 ≤ s) (ha : 1 ≤ a) (hb : aheadA s a ≤ b) (hd : (b - aheadA s a) % 3 = 0) : endA s a (b - 1) ≤ endA s a (b + 2) := by
  have hL := ahead_3 s a
  rw [endA_later hb (.inr (.inr rfl)) hd]
  simp only [show (2 : Int) + 1 = 3 from rfl, pf3]
  by_cases h : b = aheadA s a
  · subst h
    rw [endA_first (by omega), show aheadA s a - 1 + 1 = aheadA s a by omega]
    unfold aheadA lapA sizeA
    split
    · simp only [show (2 : Int) + 1 = 3 from rfl, pf3]; omega
    · split
      · simp only [show (3 : Int) + 1 = 4 from rfl, pf4]; omega
      · simp only [show (4 : Int) + 1 = 5 from rfl, pf5]; omega
  · have e : b - 1 = (b - 3) + 2 := by omega
    rw [e, endA_later (by omega) (.inr (.inr rfl)) (by omega)]
    simp only [show (2 : Int) + 1 = 3 from rfl, pf3, sizeA, Int.mul_sub]
    omega
theorem markA_step {s a n : Int} (hs : 1 ≤ s) (ha : 1 ≤ a) (h0 : 0 ≤ n) : markA s a (n + 1) = if markA s a n < endA s a (n + 1) then endA s a (n + 1) else markA s a n := by
  have hL := ahead_3 s a
  cases at_ s a h0 with
  | first _ h1 e =>
    have m0 : markA s a n = endA s a n := by unfold markA; rw [e]; simp
    rw [m0]
    by_cases h2 : n + 1 < aheadA s a
    · have m1 : markA s a (n + 1) = endA s a (n + 1) := by unfold markA; rw [in_first h2]; simp
      rw [m1, if_pos]
      have e1 := endA_eq (s := s) (a := a) (n := n + 1) (by omega)
      have e0 := endA_eq (s := s) (a := a) (n := n) h0
      have ps := placeA_step hs ha h0
      have hp : placeA s a (n + 1) = placeA s a n + sizeA s a n := by
        rw [ps]
        split
        · rename_i hh
          exfalso
          have z : placeA s a (n + 1) = 0 := by rw [ps, if_pos hh]
          unfold placeA at z
          rw [in_first h2] at z
          simp only [sizeA, Int.mul_zero, Int.add_zero] at z
          have c : n = 0 ∨ n = 1 ∨ n = 2 ∨ n = 3 := by omega
          rcases c with rfl | rfl | rfl | rfl
          · simp [pf1] at z; omega
          · simp only [show (1 : Int) + 1 = 2 from rfl, pf2] at z; omega
          · simp only [show (2 : Int) + 1 = 3 from rfl, pf3] at z; omega
          · simp only [show (3 : Int) + 1 = 4 from rfl, pf4] at z; omega
        · rfl
      rw [e1, e0, hp]
      have : 1 ≤ sizeA s a (n + 1) := by
        unfold sizeA
        have := Int.mul_nonneg (show 0 ≤ s by omega) (show 0 ≤ n + 1 by omega)
        omega
      omega
    · have hn : n + 1 = aheadA s a + 0 := by omega
      have ei : inA s a (n + 1) = (aheadA s a, 0) := by rw [hn]; exact in_later (Int.le_refl _) (.inl rfl) (by simp)
      unfold markA
      rw [ei, if_neg (by simp; omega)]
      simp only [show aheadA s a - 1 = n by omega]
      split <;> split <;> omega
  | later b m hb hm hn hd e =>
    subst hn
    have e0 := endA_later (s := s) (a := a) hb (.inl rfl) hd
    have e1 := endA_later (s := s) (a := a) hb (.inr (.inl rfl)) hd
    have e2 := endA_later (s := s) (a := a) hb (.inr (.inr rfl)) hd
    simp only [Int.zero_add, Int.add_zero, show (1 : Int) + 1 = 2 from rfl, show (2 : Int) + 1 = 3 from rfl, pf1, pf2, pf3] at e0 e1 e2
    have hz : 1 ≤ sizeA s a b := by
      unfold sizeA
      have := Int.mul_nonneg (show 0 ≤ s by omega) (show 0 ≤ b by omega)
      omega
    have lp := end_laps hs ha hb hd
    have m0 : markA s a (b + m) = if endA s a (b - 1) > endA s a (b + m) then endA s a (b - 1) else endA s a (b + m) := by
      unfold markA; rw [e, if_neg (by simp; omega)]
    rw [m0]
    rcases hm with rfl | rfl | rfl
    · have m1 : markA s a (b + 1) = if endA s a (b - 1) > endA s a (b + 1) then endA s a (b - 1) else endA s a (b + 1) := by
        unfold markA; rw [in_later hb (.inr (.inl rfl)) hd, if_neg (by simp; omega)]
      rw [show b + 0 + 1 = b + 1 by omega, m1, Int.add_zero]
      repeat' split
      all_goals omega
    · have m1 : markA s a (b + 2) = if endA s a (b - 1) > endA s a (b + 2) then endA s a (b - 1) else endA s a (b + 2) := by
        unfold markA; rw [in_later hb (.inr (.inr rfl)) hd, if_neg (by simp; omega)]
      rw [show b + 1 + 1 = b + 2 by omega, m1]
      repeat' split
      all_goals omega
    · have ei : inA s a (b + 2 + 1) = (b + 3, 0) := by rw [show b + 2 + 1 = (b + 3) + 0 by omega]; exact in_later (by omega) (.inl rfl) (by omega)
      have m1 : markA s a (b + 2 + 1) = if endA s a (b + 2) > endA s a (b + 2 + 1) then endA s a (b + 2) else endA s a (b + 2 + 1) := by
        unfold markA; rw [ei, if_neg (by simp; omega)]
        rw [show b + 3 - 1 = b + 2 by omega]
      rw [m1]
      repeat' split
      all_goals omega
end GB
set_option Elab.async false
set_option linter.all false
set_option maxRecDepth 100000
set_option maxHeartbeats 2000000
namespace GB
open PySem L2
theorem endA0 {s a : Int} : endA s a 0 = a := by
  have hL := ahead_3 s a
  rw [endA_first (by omega)]
  simp [pf1]
theorem markA0 {s a : Int} : markA s a 0 = a := by
  have hL := ahead_3 s a
  unfold markA
  rw [in_first (by omega)]
  simp [endA0]
theorem end_le_mark {s a : Int} (hs : 1 ≤ s) (ha : 1 ≤ a) : ∀ (n : Nat) (j : Int), 0 ≤ j → j ≤ n → endA s a j ≤ markA s a n
  | 0, j, h0, h1 => by
    have : j = 0 := by omega
    subst this
    rw [endA0, show ((0 : Nat) : Int) = 0 from rfl, markA0]; omega
  | n + 1, j, h0, h1 => by
    have st := markA_step hs ha (n := n) (by omega)
    rw [show ((n + 1 : Nat) : Int) = (n : Int) + 1 by omega, st]
    by_cases h : j ≤ n
    · have := end_le_mark hs ha n j h0 h
      split <;> omega
    · have : j = (n : Int) + 1 := by omega
      subst this
      split <;> omega
/-- some end is the mark -/
theorem mark_is_end {s a : Int} (hs : 1 ≤ s) (ha : 1 ≤ a) : ∀ (n : Nat), ∃ j : Nat, j ≤ n ∧ endA s a j = markA s a n
  | 0 => ⟨0, Nat.le_refl _, by rw [show ((0 : Nat) : Int) = 0 from rfl, endA0, markA0]⟩
  | n + 1 => by
    have st := markA_step hs ha (n := n) (by omega)
    rw [show ((n + 1 : Nat) : Int) = (n : Int) + 1 by omega, st]
    split
    · exact ⟨n + 1, Nat.le_refl _, by rw [show ((n + 1 : Nat) : Int) = (n : Int) + 1 by omega]⟩
    · obtain ⟨j, h1, h2⟩ := mark_is_end hs ha n
      exact ⟨j, by omega, h2⟩
def reachBase (s a c : Int) : Int := if pf s a (aheadA s a) ≤ c then
  (if c - pf s (sizeA s a (aheadA s a)) 3 < 0 then aheadA s a else aheadA s a + 3 * ((c - pf s (sizeA s a (aheadA s a)) 3) / (3 * 3 * s) + 1)) else 0
/-- r is the first growth whose block has the cell c -/
structure Reach (s a c r : Int) : Prop where
  r0 : 0 ≤ r
  lo : placeA s a r ≤ c
  hi : c < endA s a r
  ne : ∀ j, 0 ≤ j → j < r → endA s a j ≤ c
/-- what the search behind the base finds -/
structure Found (s a c f : Int) : Prop where
  f0 : 0 ≤ f
  hi : c < pf s (sizeA s a (reachBase s a c)) (f + 1)
  ne : ∀ m, 0 ≤ m → m < f → pf s (sizeA s a (reachBase s a c)) (m + 1) ≤ c
theorem base_cases {s a c : Int} (hs : 1 ≤ s) (ha : 1 ≤ a) : (reachBase s a c = 0 ∧ c < pf s a (aheadA s a)) ∨
    (∃ b, reachBase s a c = b ∧ aheadA s a ≤ b ∧ (b - aheadA s a) % 3 = 0 ∧ c < pf s (sizeA s a b) 3 ∧ endA s a (b - 1) ≤ c) := by
  have hL := ahead_3 s a
  unfold reachBase
  split
  · rename_i h1
    right
    split
    · rename_i h2
      refine ⟨_, rfl, Int.le_refl _, by simp, by omega, ?_⟩
      rw [endA_first (by omega), show aheadA s a - 1 + 1 = aheadA s a by omega]
      exact h1
    · rename_i h2
      generalize hr : c - pf s (sizeA s a (aheadA s a)) 3 = rest at *
      have d0 : 0 ≤ rest / (3 * 3 * s) := Int.ediv_nonneg (by omega) (by omega)
      have d1 := Int.ediv_mul_le rest (show (3 * 3 * s : Int) ≠ 0 by omega)
      have d2 := Int.lt_ediv_add_one_mul_self rest (show (0 : Int) < 3 * 3 * s by omega)
      generalize rest / (3 * 3 * s) = t at *
      have ec : c = rest + pf s (sizeA s a (aheadA s a)) 3 := by omega
      have e9 : t * (3 * 3 * s) = 9 * (s * t) := by
        rw [show (3 * 3 * s : Int) = 9 * s by omega, Int.mul_left_comm, Int.mul_comm t s]
      have e91 : (t + 1) * (3 * 3 * s) = 9 * (s * t) + 9 * s := by rw [Int.add_mul, e9]; omega
      refine ⟨_, rfl, by omega, by omega, ?_, ?_⟩
      · rw [ec]
        simp only [pf3, sizeA, Int.mul_add]
        have : s * (3 * t) = 3 * (s * t) := by rw [Int.mul_left_comm]
        simp only [this]
        omega
      · have e : aheadA s a + 3 * (t + 1) - 1 = (aheadA s a + 3 * t) + 2 := by omega
        rw [e, endA_later (by omega) (.inr (.inr rfl)) (by omega), ec]
        simp only [show (2 : Int) + 1 = 3 from rfl, pf3, sizeA, Int.mul_add]
        have : s * (3 * t) = 3 * (s * t) := by rw [Int.mul_left_comm]
        simp only [this]
        omega
  · left
    exact ⟨rfl, by omega⟩
theorem reach_of {s a c f : Int} (hs : 1 ≤ s) (ha : 1 ≤ a) (hc : 0 ≤ c) (h : Found s a c f) : Reach s a c (reachBase s a c + f) := by
  have hL := ahead_3 s a
  obtain ⟨f0, hi, ne⟩ := h
  rcases base_cases (c := c) hs ha with ⟨hb, h1⟩ | ⟨b, hb, b1, b2, b3, b4⟩
  · rw [hb] at hi ne ⊢
    simp only [sizeA, Int.mul_zero, Int.add_zero, Int.zero_add] at hi ne ⊢
    have hf : f < aheadA s a := by
      apply Classical.byContradiction
      intro z
      have := ne (aheadA s a - 1) (by omega) (by omega)
      rw [show aheadA s a - 1 + 1 = aheadA s a by omega] at this
      omega
    refine ⟨f0, ?_, by rw [endA_first hf]; exact hi, fun j j0 j1 => by rw [endA_first (by omega)]; exact ne j j0 j1⟩
    unfold placeA
    rw [in_first hf]
    simp only [sizeA, Int.mul_zero, Int.add_zero]
    by_cases z : f = 0
    · subst z; rw [pf0]; exact hc
    · have := ne (f - 1) (by omega) (by omega)
      rwa [show f - 1 + 1 = f by omega] at this
  · rw [hb] at hi ne ⊢
    have hf : f = 0 ∨ f = 1 ∨ f = 2 := by
      have : f ≤ 2 := by
        apply Classical.byContradiction
        intro z
        have := ne 2 (by omega) (by omega)
        rw [show (2 : Int) + 1 = 3 from rfl] at this
        omega
      omega
    refine ⟨by omega, ?_, by rw [endA_later b1 hf b2]; exact hi, fun j j0 j1 => ?_⟩
    · unfold placeA
      rw [in_later b1 hf b2]
      by_cases z : f = 0
      · subst z; rw [pf0]; exact hc
      · have := ne (f - 1) (by omega) (by omega)
        rwa [show f - 1 + 1 = f by omega] at this
    · by_cases hj : j < b
      · have h1 := end_le_mark hs ha (b - 1).toNat j j0 (by omega)
        rw [Int.toNat_of_nonneg (by omega)] at h1
        have h2 : markA s a (b - 1) = endA s a (b - 1) := by
          by_cases z : b = aheadA s a
          · unfold markA
            rw [in_first (by omega)]; simp
          · have e : b - 1 = (b - 3) + 2 := by omega
            have lp := end_laps hs ha (b := b - 3) (by omega) (by omega)
            unfold markA
            rw [e, in_later (by omega) (.inr (.inr rfl)) (by omega), if_neg (by simp; omega)]
            rw [← e] at lp ⊢
            show (if endA s a (b - 3 - 1) > endA s a (b - 1) then endA s a (b - 3 - 1) else endA s a (b - 1)) = endA s a (b - 1)
            rw [if_neg (by omega)]
        omega
      · have := ne (j - b) (by omega) (by omega)
        rw [show j = b + (j - b) by omega, endA_later b1 (by omega) b2]
        exact this
/-- the search ends -/
theorem pf_big {s z m : Int} (hs : 1 ≤ s) (hz : 1 ≤ z) (hm : 1 ≤ m) : m ≤ pf s z m := by
  unfold pf
  have h1 : m * 1 ≤ z * m := by rw [Int.mul_comm z m]; exact Int.mul_le_mul_of_nonneg_left hz (by omega)
  have h2 : 0 ≤ m * (m - 1) / 2 := Int.ediv_nonneg (Int.mul_nonneg (by omega) (by omega)) (by omega)
  have h3 := Int.mul_nonneg (show 0 ≤ s by omega) h2
  omega
theorem found_le {s a c f : Int} (hs : 1 ≤ s) (ha : 1 ≤ a) (h : ∀ m, 0 ≤ m → m < f → pf s (sizeA s a (reachBase s a c)) (m + 1) ≤ c) : f ≤ 4 := by
  have hL := ahead_3 s a
  apply Classical.byContradiction
  intro z
  rcases base_cases (c := c) hs ha with ⟨hb, h1⟩ | ⟨b, hb, b1, b2, b3, b4⟩
  · have := h (aheadA s a - 1) (by omega) (by omega)
    rw [hb, show aheadA s a - 1 + 1 = aheadA s a by omega] at this
    simp only [sizeA, Int.mul_zero, Int.add_zero] at this
    omega
  · have := h 2 (by omega) (by omega)
    rw [hb, show (2 : Int) + 1 = 3 from rfl] at this
    omega
/-- the ends of the first blocks -/
theorem mx_ends {s a : Int} (hs : 1 ≤ s) (ha : 1 ≤ a) : ∀ n : Nat, mx ((List.range (n + 1)).map fun k => endA s a (k : Nat)) = markA s a n
  | 0 => by rw [show ((0 : Nat) : Int) = 0 from rfl, markA0]; show endA s a ((0 : Nat) : Int) = a; rw [show ((0 : Nat) : Int) = 0 from rfl, endA0]
  | n + 1 => by
    rw [List.range_succ, List.map_append, List.map_cons, List.map_nil, mx_snoc _ (by simp), mx_ends hs ha n, show ((n + 1 : Nat) : Int) = (n : Int) + 1 by omega, markA_step hs ha (by omega)]
theorem mx_needs {s a : Int} (hs : 1 ≤ s) (ha : 1 ≤ a) : ∀ n : Nat, maxI a ((List.range n).map fun (k : Nat) => if endA s a ((k : Int) + 1) > endA s a k then endA s a ((k : Int) + 1) else endA s a k) = markA s a n
  | 0 => by rw [show ((0 : Nat) : Int) = 0 from rfl, markA0]; rfl
  | n + 1 => by
    have h1 := end_le_mark hs ha n n (by omega) (by omega)
    rw [List.range_succ, List.map_append, List.map_cons, List.map_nil, maxI_snoc, mx_needs hs ha n, show ((n + 1 : Nat) : Int) = (n : Int) + 1 by omega, markA_step hs ha (by omega)]
    repeat' split
    all_goals omega
/-- great enough for all that is multiplied -/
def BB : Nat := 2 ^ 1000
theorem bb_big : 2 ^ 200 ≤ BB := Nat.pow_le_pow_right (by decide) (by decide)
theorem bb_64 : 18446744073709551616 ≤ BB := Nat.le_trans (show 2 ^ 64 ≤ 2 ^ 200 from Nat.pow_le_pow_right (by decide) (by decide)) bb_big
theorem mulB {i j : Int} (h : i.natAbs < BB) (h2 : j.natAbs < BB) : mulOk i j = true := mulOk_w (a := 1000) (b := 1000) h h2 (by decide) (by decide) (by decide)
theorem fMul_B {i j : Int} {μ : Mu} (h : i.natAbs < BB) (h2 : j.natAbs < BB) : fMulI (.int i) (.int j) μ = .ok (.int (i * j)) μ := fMul_ok (mulB h h2)
theorem fDiv_B9 {i j : Int} {μ : Mu} (h : 0 < j) (h2 : j.natAbs < BB) : fDiv (.int i) (.int (9 * j)) μ = .ok (.int (i / (9 * j))) μ := fDiv_w (k := 1004) (by omega) (by
  rw [Int.natAbs_mul, show (2 : Nat) ^ 1004 = 16 * BB by unfold BB; rw [show 1004 = 4 + 1000 from rfl, Nat.pow_add]]
  simp only [show (9 : Int).natAbs = 9 from rfl]; omega) (by decide) (by decide)
end GB
set_option Elab.async false
set_option linter.all false
set_option maxRecDepth 100000
set_option maxHeartbeats 2000000
namespace GB
open PySem L2
/-! ### which growths come back -/
theorem placeA_0 {s a n : Int} (hs : 1 ≤ s) (ha : 1 ≤ a) (h0 : 0 ≤ n) : placeA s a n = 0 ↔ n = 0 ∨ (aheadA s a ≤ n ∧ (n - aheadA s a) % 3 = 0) := by
  have hL := ahead_3 s a
  cases at_ s a h0 with
  | first _ h1 e =>
    unfold placeA
    rw [e]
    simp only [sizeA, Int.mul_zero, Int.add_zero]
    have c : n = 0 ∨ n = 1 ∨ n = 2 ∨ n = 3 ∨ n = 4 := by omega
    rcases c with rfl | rfl | rfl | rfl | rfl
    · simp [pf0]
    · simp only [pf1]; omega
    · simp only [pf2]; omega
    · simp only [pf3]; omega
    · simp only [pf4]; omega
  | later b m hb hm hn hd e =>
    have hz : 1 ≤ sizeA s a b := by
      unfold sizeA
      have := Int.mul_nonneg (show 0 ≤ s by omega) (show 0 ≤ b by omega)
      omega
    unfold placeA
    rw [e]
    subst hn
    rcases hm with rfl | rfl | rfl
    · simp only [pf0, Int.add_zero]; exact iff_of_true trivial (.inr ⟨hb, hd⟩)
    · simp only [pf1]; omega
    · simp only [pf2]; omega
def isBack (s a : Int) (k : Nat) : Bool := decide (placeA s a (1 + (k : Nat)) = 0)
def goneL (s a : Int) (n : Nat) : List Nat := (List.range n).filter (isBack s a)
def backsA (s a n : Int) : Int := if n < aheadA s a then 0 else 1 + (n - aheadA s a) / 3
def backA (s a n : Int) : Int := aheadA s a + 3 * (n - 1)
theorem isBack_iff {s a : Int} (hs : 1 ≤ s) (ha : 1 ≤ a) (k : Nat) : isBack s a k = true ↔ aheadA s a ≤ (k : Int) + 1 ∧ ((k : Int) + 1 - aheadA s a) % 3 = 0 := by
  have hL := ahead_3 s a
  unfold isBack
  rw [decide_eq_true_eq, placeA_0 hs ha (by omega)]
  constructor
  · rintro (h | ⟨h1, h2⟩)
    · omega
    · exact ⟨by omega, by omega⟩
  · rintro ⟨h1, h2⟩
    exact .inr ⟨by omega, by omega⟩
theorem backs_step {s a : Int} (hs : 1 ≤ s) (ha : 1 ≤ a) (n : Nat) : backsA s a ((n : Int) + 1) = backsA s a n + (if isBack s a n = true then 1 else 0) := by
  have hL := ahead_3 s a
  unfold backsA
  by_cases h : isBack s a n = true
  · rw [if_pos h]
    rw [isBack_iff hs ha] at h
    obtain ⟨h1, h2⟩ := h
    rw [if_neg (by omega)]
    by_cases h3 : (n : Int) < aheadA s a
    · rw [if_pos h3]; omega
    · rw [if_neg h3]; omega
  · rw [if_neg h]
    rw [isBack_iff hs ha] at h
    by_cases h3 : (n : Int) + 1 < aheadA s a
    · rw [if_pos h3, if_pos (by omega)]; rfl
    · rw [if_neg h3, if_neg (by omega)]; omega
theorem goneL_len {s a : Int} (hs : 1 ≤ s) (ha : 1 ≤ a) : ∀ n : Nat, ((goneL s a n).length : Int) = backsA s a n
  | 0 => by
    have hL := ahead_3 s a
    unfold backsA
    rw [if_pos (by simp; omega)]; rfl
  | n + 1 => by
    have ih := goneL_len hs ha n
    unfold goneL at *
    rw [List.range_succ, List.filter_append, List.length_append, show ((n + 1 : Nat) : Int) = (n : Int) + 1 by omega, backs_step hs ha, ← ih]
    by_cases h : isBack s a n = true
    · simp [h]
    · simp [h]
theorem goneL_eq {s a : Int} (hs : 1 ≤ s) (ha : 1 ≤ a) : ∀ n : Nat, (goneL s a n).map (fun k => PV.int (1 + (k : Nat))) = (List.range (goneL s a n).length).map fun i => PV.int (backA s a ((i : Nat) + 1))
  | 0 => rfl
  | n + 1 => by
    have ih := goneL_eq hs ha n
    have hl := goneL_len hs ha n
    have e : goneL s a (n + 1) = goneL s a n ++ (if isBack s a n = true then [n] else []) := by
      unfold goneL
      rw [List.range_succ, List.filter_append]
      by_cases h : isBack s a n = true <;> simp [h]
    rw [e]
    by_cases h : isBack s a n = true
    · rw [if_pos h, List.map_append, ih, List.length_append, List.length_singleton, List.range_succ, List.map_append]
      congr 1
      have hb := (isBack_iff hs ha n).mp h
      have hL := ahead_3 s a
      have : backA s a (((goneL s a n).length : Int) + 1) = 1 + n := by
        rw [hl]
        unfold backA backsA
        split <;> omega
      simp [this]
    · rw [if_neg h, List.append_nil]; exact ih
theorem filter_le {keep : Nat → Bool} {n k : Nat} (h : k ≤ n) : ((List.range n).filter keep).filter (fun j => decide ((1 : Int) + (j : Nat) ≤ k)) = (List.range k).filter keep := by
  obtain ⟨m, rfl⟩ : ∃ m, n = k + m := ⟨n - k, by omega⟩
  rw [List.range_add, List.filter_append, List.filter_append]
  have h1 : ((List.range k).filter keep).filter (fun j => decide ((1 : Int) + (j : Nat) ≤ k)) = (List.range k).filter keep := by
    refine List.filter_eq_self.mpr fun j hj => ?_
    have := List.mem_range.mp (List.mem_filter.mp hj).1
    simp; omega
  have h2 : (((List.range m).map (k + ·)).filter keep).filter (fun j => decide ((1 : Int) + (j : Nat) ≤ k)) = [] := by
    refine List.filter_eq_nil_iff.mpr fun j hj => ?_
    obtain ⟨i, _, rfl⟩ := List.mem_map.mp (List.mem_filter.mp hj).1
    simp; omega
  rw [h1, h2, List.append_nil]
/-- the first that is kept -/
theorem filter_head {keep : Nat → Bool} {n r : Nat} (hr : r < n) (h : keep r = true) (hn : ∀ j, j < r → keep j = false) : ∃ t, (List.range n).filter keep = r :: t := by
  obtain ⟨m, rfl⟩ : ∃ m, n = r + (m + 1) := ⟨n - r - 1, by omega⟩
  rw [List.range_add, List.filter_append]
  have h1 : (List.range r).filter keep = [] := List.filter_eq_nil_iff.mpr fun j hj => by
    rw [hn j (List.mem_range.mp hj)]; decide
  rw [h1, List.range_succ_eq_map]
  simp [h]
theorem gone_head {s a : Int} (hs : 1 ≤ s) (ha : 1 ≤ a) {n : Nat} (hn : 5 ≤ n) : ∃ t, goneL s a n = (aheadA s a - 1).toNat :: t := by
  have hL := ahead_3 s a
  refine filter_head (by omega) ((isBack_iff hs ha _).mpr ?_) fun j hj => ?_
  · rw [Int.toNat_of_nonneg (by omega)]
    exact ⟨by omega, by simp⟩
  · cases z : isBack s a j with
    | false => rfl
    | true => have := (isBack_iff hs ha j).mp z; omega
end GB
set_option Elab.async false
set_option linter.all false
set_option maxRecDepth 100000
set_option maxHeartbeats 2000000
namespace GB
open PySem L2
/-! ### gaps, steady laps, laps -/
/-- the gap for k, q ^ (k + 1) times -/
def hgh (p q : Int) : Nat → Int
  | 0 => -p
  | k + 1 => q ^ (k + 2) + p * hgh p q k
theorem hgh1 (p q : Int) : hgh p q 1 = q * q - p * p := by
  show q ^ 2 + p * (-p) = _
  rw [Int.pow_succ, Int.pow_succ, Int.pow_zero, Int.one_mul, Int.mul_neg]; omega
theorem hgh_closed (p q : Int) : ∀ k, (p - q) * hgh p q k = q * q * (p ^ k - q ^ k) - p ^ (k + 1) * (p - q)
  | 0 => by simp [hgh, Int.pow_succ, Int.mul_neg, Int.mul_comm]
  | k + 1 => by
    have ih := hgh_closed p q k
    show (p - q) * (q ^ (k + 2) + p * hgh p q k) = _
    have e : (p - q) * (q ^ (k + 2) + p * hgh p q k) = (p - q) * q ^ (k + 2) + p * ((p - q) * hgh p q k) := by
      rw [Int.mul_add, Int.mul_left_comm]
    rw [e, ih, show k + 2 = (k + 1) + 1 from rfl]
    simp only [Int.pow_succ, Int.mul_sub, Int.sub_mul]
    generalize p ^ k = P
    generalize q ^ k = Q
    simp only [Int.mul_assoc, Int.mul_comm, Int.mul_left_comm]
    omega
/-- so much of the first sizes, less a later one -/
def sumS (p q c a : Int) : Nat → Int
  | 0 => 0
  | k + 1 => sumS p q c a k + sz p q c a k
def sur (p q c : Int) : Nat → Int → Int
  | 0, a => -nxt p q c a
  | k + 1, a => a + sur p q c k (nxt p q c a)
theorem sz_front (p q c : Int) : ∀ (k : Nat) (a : Int), sz p q c a (k + 1) = sz p q c (nxt p q c a) k
  | 0, _ => rfl
  | k + 1, a => by
    show nxt p q c (sz p q c a (k + 1)) = nxt p q c (sz p q c (nxt p q c a) k)
    rw [sz_front p q c k a]
theorem sumS_front (p q c : Int) : ∀ (k : Nat) (a : Int), sumS p q c a (k + 1) = a + sumS p q c (nxt p q c a) k
  | 0, a => by simp [sumS, sz]
  | k + 1, a => by
    show sumS p q c a (k + 1) + sz p q c a (k + 1) = a + (sumS p q c (nxt p q c a) k + sz p q c (nxt p q c a) k)
    rw [sumS_front p q c k a, sz_front]; omega
theorem sur_sum (p q c : Int) : ∀ (k : Nat) (a : Int), sur p q c k a = sumS p q c a k - sz p q c a (k + 1)
  | 0, a => by simp [sur, sumS, sz]
  | k + 1, a => by
    show a + sur p q c k (nxt p q c a) = _
    rw [sur_sum p q c k, sumS_front, sz_front p q c (k + 1) a]; omega
theorem nxt_le0 {p q a : Int} (h : Rk p q 0) : q * nxt p q 0 a ≤ p * a := by
  unfold nxt
  have := Int.mul_ediv_self_le (x := p * a) (k := q) (by have := h.q1; omega)
  simpa using this
theorem nxt_gt1 {p q c a : Int} (h : Rk p q c) (hc : 1 ≤ c) : p * a < q * nxt p q c a := by
  unfold nxt
  have h1 := Int.lt_mul_ediv_self_add (x := p * a) (k := q) h.q0
  have h2 := Int.mul_le_mul_of_nonneg_left hc (show 0 ≤ q by have := h.q1; omega)
  rw [Int.mul_add]; omega
/-- nothing added: no less than the gap -/
theorem sur_ge0 {p q : Int} (h : Rk p q 0) : ∀ (k : Nat) (a : Int), (∀ j, j < k → hgh p q j ≤ 0) → hgh p q k * a ≤ q ^ (k + 1) * sur p q 0 k a
  | 0, a, _ => by
    have := nxt_le0 (a := a) h
    show -p * a ≤ q ^ 1 * (-nxt p q 0 a)
    rw [Int.pow_succ, Int.pow_zero, Int.one_mul, Int.mul_neg, Int.neg_mul]; omega
  | k + 1, a, hj => by
    have ih := sur_ge0 h k (nxt p q 0 a) fun j hj' => hj j (by omega)
    have hk := hj k (by omega)
    have h0 := nxt_le0 (a := a) h
    have h1 : hgh p q k * (p * a) ≤ hgh p q k * (q * nxt p q 0 a) := Int.mul_le_mul_of_nonpos_left hk h0
    have h2 := Int.mul_le_mul_of_nonneg_left ih (show 0 ≤ q by have := h.q1; omega)
    show (q ^ (k + 2) + p * hgh p q k) * a ≤ q ^ (k + 2) * (a + sur p q 0 k (nxt p q 0 a))
    rw [Int.mul_add, Int.add_mul]
    have e1 : p * hgh p q k * a = hgh p q k * (p * a) := by rw [Int.mul_assoc, Int.mul_left_comm]
    have e2 : q ^ (k + 2) * sur p q 0 k (nxt p q 0 a) = q * (q ^ (k + 1) * sur p q 0 k (nxt p q 0 a)) := by rw [Int.pow_succ q (k + 1), Int.mul_comm (q ^ (k + 1)) q, Int.mul_assoc]
    have e3 : q * (hgh p q k * nxt p q 0 a) = hgh p q k * (q * nxt p q 0 a) := by rw [Int.mul_left_comm]
    omega
/-- something added: less than the gap -/
theorem sur_lt1 {p q c : Int} (h : Rk p q c) (hc : 1 ≤ c) : ∀ (k : Nat) (a : Int), (∀ j, j < k → hgh p q j ≤ 0) → q ^ (k + 1) * sur p q c k a < hgh p q k * a
  | 0, a, _ => by
    have := nxt_gt1 (a := a) h hc
    show q ^ 1 * (-nxt p q c a) < -p * a
    rw [Int.pow_succ, Int.pow_zero, Int.one_mul, Int.mul_neg, Int.neg_mul]; omega
  | k + 1, a, hj => by
    have ih := sur_lt1 h hc k (nxt p q c a) fun j hj' => hj j (by omega)
    have hk := hj k (by omega)
    have h0 := nxt_gt1 (a := a) h hc
    have h1 : hgh p q k * (q * nxt p q c a) ≤ hgh p q k * (p * a) := Int.mul_le_mul_of_nonpos_left hk (by omega)
    have h2 := Int.mul_lt_mul_of_pos_left ih h.q0
    show q ^ (k + 2) * (a + sur p q c k (nxt p q c a)) < (q ^ (k + 2) + p * hgh p q k) * a
    rw [Int.mul_add, Int.add_mul]
    have e1 : p * hgh p q k * a = hgh p q k * (p * a) := by rw [Int.mul_assoc, Int.mul_left_comm]
    have e2 : q ^ (k + 2) * sur p q c k (nxt p q c a) = q * (q ^ (k + 1) * sur p q c k (nxt p q c a)) := by rw [Int.pow_succ q (k + 1), Int.mul_comm (q ^ (k + 1)) q, Int.mul_assoc]
    have e3 : q * (hgh p q k * nxt p q c a) = hgh p q k * (q * nxt p q c a) := by rw [Int.mul_left_comm]
    omega
/-- without a steady lap all gaps are below 0 -/
theorem hgh_neg {p q : Int} (hq : 1 ≤ q) (h : p * q + q * q < p * p) (hpq : q ≤ p) (k : Nat) : hgh p q k < 0 := by
  have e := hgh_closed p q k
  have hp : q < p := by
    rcases Int.lt_or_eq_of_le hpq with z | z
    · exact z
    · subst z
      have : 0 < q * q := Int.mul_pos (by omega) (by omega)
      omega
  have e2 : q * q * (p ^ k - q ^ k) - p ^ (k + 1) * (p - q) = p ^ k * (q * q - p * p + p * q) - q * q * q ^ k := by
    rw [Int.pow_succ]
    simp only [Int.mul_sub, Int.sub_mul, Int.mul_add]
    generalize p ^ k = P
    generalize q ^ k = Q
    simp only [Int.mul_assoc, Int.mul_comm, Int.mul_left_comm]
    omega
  rw [e2] at e
  have hP : 0 < p ^ k := Int.pow_pos (by omega)
  have hQ : 0 < q ^ k := Int.pow_pos (by omega)
  have n1 : p ^ k * (q * q - p * p + p * q) ≤ 0 := Int.mul_nonpos_of_nonneg_of_nonpos (by omega) (by omega)
  have n2 : 0 < q * q * q ^ k := Int.mul_pos (Int.mul_pos (by omega) (by omega)) hQ
  apply Classical.byContradiction
  intro z
  have := Int.mul_nonneg (show 0 ≤ p - q by omega) (show 0 ≤ hgh p q k by omega)
  omega
/-- K is the steady lap -/
structure Steady (p q : Int) (K : Nat) : Prop where
  k2 : 2 ≤ K
  ge : 0 ≤ hgh p q K
  lt : ∀ k, 2 ≤ k → k < K → hgh p q k < 0
theorem Steady.le {p q : Int} {K : Nat} (h : Steady p q K) (hq : 1 ≤ q) (hpq : q ≤ p) : ∀ j, j < K → hgh p q j ≤ 0 := fun j hj => by
  rcases Nat.lt_or_ge j 2 with z | z
  · have c : j = 0 ∨ j = 1 := by omega
    rcases c with rfl | rfl
    · show -p ≤ 0; omega
    · rw [hgh1]
      have := Int.mul_le_mul hpq hpq (by omega) (by omega)
      omega
  · have := h.lt j z hj; omega
theorem Steady.uniq {p q : Int} {K L : Nat} (h : Steady p q K) (g : Steady p q L) : K = L := by
  rcases Nat.lt_trichotomy K L with z | z | z
  · have := g.lt K h.k2 z; have := h.ge; omega
  · exact z
  · have := h.lt L g.k2 z; have := g.ge; omega
/-! runs -/
theorem blk_shift {p q c a : Int} {i : Nat} (h : (blk p q c a i).1 = 0) : ∀ k, blk p q c a (i + k) = blk p q c (sz p q c a i) k
  | 0 => Prod.ext h (blk_sz p q c a i)
  | k + 1 => by rw [show i + (k + 1) = (i + k) + 1 from rfl, blk_S, blk_S, blk_shift h k]
/-- so many growths to the right -/
theorem blk_right {p q c a : Int} : ∀ {k : Nat}, (∀ j, j < k → (blk p q c a j).1 < nxt p q c (blk p q c a j).2) → (blk p q c a k).1 = sumS p q c a k
  | 0, _ => rfl
  | k + 1, h => by
    have ih := blk_right (k := k) fun j hj => h j (by omega)
    have hk := h k (by omega)
    rw [blk_S, if_neg (by omega)]
    show (blk p q c a k).1 + (blk p q c a k).2 = sumS p q c a k + sz p q c a k
    rw [ih, blk_sz]
/-- behind so many growths to the right: back if the surplus is at least 0 -/
theorem back_iff {p q c a : Int} {k : Nat} (h : ∀ j, j < k → (blk p q c a j).1 < nxt p q c (blk p q c a j).2) : nxt p q c (blk p q c a k).2 ≤ (blk p q c a k).1 ↔ 0 ≤ sur p q c k a := by
  have e : nxt p q c (blk p q c a k).2 = sz p q c a (k + 1) := by rw [blk_sz]; rfl
  rw [blk_right h, sur_sum, e]
  omega
/-- nothing added: not more growths to the right than the steady lap -/
theorem lap_le {p q a : Int} {K : Nat} (h : Rk p q 0) (ha : 1 ≤ a) (hS : Steady p q K) : ∃ k, k ≤ K ∧ nxt p q 0 (blk p q 0 a k).2 ≤ (blk p q 0 a k).1 := by
  apply Classical.byContradiction
  intro z
  have hr : ∀ j, j < K + 1 → (blk p q 0 a j).1 < nxt p q 0 (blk p q 0 a j).2 := fun j hj => by
    apply Classical.byContradiction
    intro y
    exact z ⟨j, by omega, by omega⟩
  have hs := sur_ge0 h K a (hS.le h.q1 h.pq)
  have h0 := Int.mul_nonneg hS.ge (show 0 ≤ a by omega)
  have hq : (0 : Int) < q ^ (K + 1) := Int.pow_pos h.q0
  have : 0 ≤ sur p q 0 K a := by
    apply Classical.byContradiction
    intro y
    have := Int.mul_le_mul_of_nonneg_left (show sur p q 0 K a ≤ -1 by omega) (show 0 ≤ q ^ (K + 1) by omega)
    omega
  exact z ⟨K, Nat.le_refl _, (back_iff (k := K) fun j hj => hr j (by omega)).mpr this⟩
/-- something added: never sooner -/
theorem lap_ge {p q c a : Int} {k : Nat} (h : Rk p q c) (hc : 1 ≤ c) (ha : 1 ≤ a) (hr : ∀ j, j < k → (blk p q c a j).1 < nxt p q c (blk p q c a j).2) (hb : nxt p q c (blk p q c a k).2 ≤ (blk p q c a k).1) (hg : ∀ j, j ≤ k → hgh p q j ≤ 0) : False := by
  have h0 := (back_iff hr).mp hb
  have hs := sur_lt1 h hc k a fun j hj => hg j (by omega)
  have h1 := Int.mul_nonpos_of_nonpos_of_nonneg (hg k (Nat.le_refl _)) (show 0 ≤ a by omega)
  have h2 := Int.mul_nonneg (show 0 ≤ q ^ (k + 1) from Int.le_of_lt (Int.pow_pos h.q0)) h0
  omega
/-! steady laps worked out -/
def stGo (p q : Int) : Nat → Nat → Int → Int → Nat
  | 0, k, _, _ => k
  | f + 1, k, h, w => if 2 ≤ k && decide (0 ≤ h) then k else stGo p q f (k + 1) (w * q + p * h) (w * q)
/-- the steady lap of a rule that has one -/
def stN (p q : Int) : Nat := stGo p q 200 1 (q * q - p * p) (q * q)
def back (p q : Int) : Bool := decide (p * p ≤ p * q + q * q)
def chkS (p q : Int) (K : Nat) : Bool := decide (2 ≤ K) && decide (K ≤ 100) && decide (0 ≤ hgh p q K) && (List.range K).all fun k => decide (k < 2) || decide (hgh p q k < 0)
theorem steady_all : (List.range 61).all (fun p => (List.range (p + 1)).all fun q => !back (p + 1) (q + 1) || chkS (p + 1) (q + 1) (stN (p + 1) (q + 1))) = true := by decide +kernel
theorem steady_ok {p q : Int} (hq : 1 ≤ q) (hpq : q ≤ p) (hp : p ≤ 61) (hb : p * p ≤ p * q + q * q) : Steady p q (stN p q) ∧ stN p q ≤ 100 := by
  have h := List.all_eq_true.mp steady_all (p - 1).toNat (List.mem_range.mpr (by omega))
  have h2 := List.all_eq_true.mp h (q - 1).toNat (List.mem_range.mpr (by omega))
  rw [show (((p - 1).toNat : Int) + 1) = p by omega, show (((q - 1).toNat : Int) + 1) = q by omega] at h2
  have : back p q = true := decide_eq_true hb
  rw [this, Bool.not_true, Bool.false_or] at h2
  simp only [chkS, Bool.and_eq_true, decide_eq_true_eq, List.all_eq_true, Bool.or_eq_true] at h2
  obtain ⟨⟨⟨a1, a2⟩, a3⟩, a4⟩ := h2
  exact ⟨⟨a1, a3, fun k k2 hk => (a4 k (List.mem_range.mpr hk)).resolve_left (by omega)⟩, a2⟩
end GB
set_option Elab.async false
set_option linter.all false
set_option maxRecDepth 100000
set_option maxHeartbeats 2000000
namespace GB
open PySem L2
/-- the steady LAP as it is told -/
def stV (p q : Int) : PV := if p * p ≤ p * q + q * q then .int (stN p q) else .non
/-- p ^ k (p - q) q .. : the law's own way -/
theorem pow_gap {p q : Int} (hpq : q < p) (k : Nat) : p ^ k * p * (p - q) > q * q * (p ^ k - q ^ k) ↔ hgh p q k < 0 := by
  have e := hgh_closed p q k
  rw [Int.pow_succ] at e
  constructor
  · intro h
    apply Classical.byContradiction
    intro z
    have := Int.mul_nonneg (show 0 ≤ p - q by omega) (show 0 ≤ hgh p q k by omega)
    omega
  · intro h
    have := Int.mul_neg_of_pos_of_neg (show 0 < p - q by omega) h
    omega
/-! ### BACKS that are barred -/
/-- so many growths to the right stand ahead -/
def bar (p q c : Int) : Nat → List Bool → Bool
  | _, [] => false
  | h, b :: bs => if b && decide (0 < c) && (!back p q || decide (h < stN p q)) then true
    else if decide (c = 0) && back p q && decide (stN p q < (if b then 0 else h + 1)) then true else bar p q c (if b then 0 else h + 1) bs
/-- the stretches, and the one that is left -/
def stre : Nat → List Bool → List Nat × Nat
  | h, [] => ([], h)
  | h, true :: bs => (h :: (stre 0 bs).1, (stre 0 bs).2)
  | h, false :: bs => stre (h + 1) bs
def dueB (p q c : Int) (bs : List Bool) : Bool := if c = 0 then back p q && ((stre 0 bs).1 ++ [(stre 0 bs).2]).any fun h => decide (stN p q < h)
  else !(stre 0 bs).1.isEmpty && (!back p q || (stre 0 bs).1.any fun h => decide (h < stN p q))
theorem bar0 {p q : Int} (hb : back p q = true) : ∀ (bs : List Bool) (h : Nat), h ≤ stN p q → bar p q 0 h bs = ((stre h bs).1 ++ [(stre h bs).2]).any fun h => decide (stN p q < h)
  | [], h, hh => by simp [bar, stre]; omega
  | true :: bs, h, hh => by
    have ih := bar0 hb bs 0 (Nat.zero_le _)
    unfold bar
    simp only [stre, decide_false, Bool.and_false, Bool.false_and, if_true, List.cons_append, List.any_cons]
    simp [hb]
    rw [ih]
    simp
    intro z; omega
  | false :: bs, h, hh => by
    unfold bar
    by_cases z : stN p q < h + 1
    · have hl : ∀ (bs : List Bool) (k : Nat), h + 1 ≤ k → ((stre k bs).1 ++ [(stre k bs).2]).any (fun h => decide (stN p q < h)) = true := by
        intro bs
        induction bs with
        | nil => intro k hk; simp [stre]; omega
        | cons b bs ih =>
          intro k hk
          cases b with
          | false => exact ih (k + 1) (by omega)
          | true => simp [stre]; left; omega
      have := hl bs (h + 1) (Nat.le_refl _)
      simp only [stre]
      rw [this]
      simp [hb, z]
    · have ih := bar0 hb bs (h + 1) (by omega)
      simp only [stre]
      rw [← ih]
      simp [z]
theorem bar0n {p q : Int} (hb : back p q = false) : ∀ (bs : List Bool) (h : Nat), bar p q 0 h bs = false
  | [], h => rfl
  | b :: bs, h => by
    unfold bar
    simp [hb, bar0n hb bs]
theorem bar1 {p q c : Int} (hc : 0 < c) : ∀ (bs : List Bool) (h : Nat), bar p q c h bs = (!(stre h bs).1.isEmpty && (!back p q || (stre h bs).1.any fun h => decide (h < stN p q)))
  | [], h => by simp [bar, stre]
  | true :: bs, h => by
    have ih := bar1 (p := p) (q := q) hc bs 0
    have hc0 : ¬ c = 0 := by omega
    unfold bar
    simp only [stre]
    by_cases z : back p q = true
    · by_cases y : h < stN p q
      · simp [hc, z, y]
      · simp [hc, hc0, z, y, ih]
        cases (stre 0 bs).1 <;> simp
    · simp [hc, z]
  | false :: bs, h => by
    have ih := bar1 (p := p) (q := q) hc bs (h + 1)
    have hc0 : ¬ c = 0 := by omega
    unfold bar
    simp only [stre]
    rw [← ih]
    simp [hc0]
theorem bar_due {p q c : Int} (hc : 0 ≤ c) (bs : List Bool) : bar p q c 0 bs = dueB p q c bs := by
  unfold dueB
  by_cases h : c = 0
  · subst h
    rw [if_pos rfl]
    by_cases z : back p q = true
    · rw [bar0 z bs 0 (Nat.zero_le _), z, Bool.true_and]
    · have z2 : back p q = false := by simpa using z
      rw [bar0n z2, z2, Bool.false_and]
  · rw [if_neg h, bar1 (by omega)]
/-- whether growth k + 1 of the RUN comes back -/
def sgn (p q c a : Int) (k : Nat) : Bool := decide ((blk p q c a (k + 1)).1 = 0)
theorem sgn_iff {p q c a : Int} (h : Rk p q c) (h1 : 1 ≤ a) (h2 : a < nxt p q c a) (k : Nat) : sgn p q c a k = decide (nxt p q c (blk p q c a k).2 ≤ (blk p q c a k).1) := by
  have b := blk_ok h h1 h2 k
  unfold sgn
  rw [blk_S]
  by_cases z : nxt p q c (blk p q c a k).2 ≤ (blk p q c a k).1
  · simp [z]
  · rw [if_neg z, decide_eq_false z]
    simp; omega
/-- the RUN of a START is never barred -/
theorem run_free {p q c a : Int} (h : Rk p q c) (hp : p ≤ 61) (h1 : 1 ≤ a) (h2 : a < nxt p q c a) : ∀ (n i k : Nat), (blk p q c a i).1 = 0 → (∀ j, j < k → sgn p q c a (i + j) = false) → bar p q c k ((List.range n).map fun j => sgn p q c a (i + k + j)) = false
  | 0, _, _, _, _ => rfl
  | n + 1, i, k, hi, hr => by
    have b0 := blk_ok h h1 h2 i
    have a0 : 1 ≤ sz p q c a i := by rw [← blk_sz]; omega
    have hright : ∀ j, j < k → (blk p q c (sz p q c a i) j).1 < nxt p q c (blk p q c (sz p q c a i) j).2 := fun j hj => by
      have := hr j hj
      rw [sgn_iff h h1 h2, blk_shift hi, decide_eq_false_iff_not] at this
      omega
    rw [List.range_succ_eq_map, List.map_cons, List.map_map]
    have tail : (List.range n).map ((fun j => sgn p q c a (i + k + j)) ∘ Nat.succ) = (List.range n).map fun j => sgn p q c a (i + k + 1 + j) := List.map_congr_left fun j _ => by
      show sgn p q c a (i + k + (j + 1)) = _
      rw [show i + k + (j + 1) = i + k + 1 + j by omega]
    rw [tail, Nat.add_zero]
    unfold bar
    cases hb : sgn p q c a (i + k) with
    | true =>
      have hback := hb
      rw [sgn_iff h h1 h2, blk_shift hi, decide_eq_true_eq] at hback
      have z0 : (blk p q c a (i + k + 1)).1 = 0 := of_decide_eq_true hb
      have ih := run_free h hp h1 h2 n (i + k + 1) 0 z0 fun j hj => by omega
      rw [Nat.add_zero] at ih
      by_cases hc : 0 < c
      · have hn : (back p q = true ∧ stN p q ≤ k) := by
          apply Classical.byContradiction
          intro z
          refine lap_ge h hc a0 hright hback fun j hj => ?_
          by_cases hbk : back p q = true
          · have hS := (steady_ok h.q1 h.pq hp (of_decide_eq_true hbk)).1
            have : ¬ stN p q ≤ k := fun y => z ⟨hbk, y⟩
            exact hS.le h.q1 h.pq j (by omega)
          · have hbk2 : ¬ p * p ≤ p * q + q * q := fun y => hbk (decide_eq_true y)
            have := hgh_neg h.q1 (by omega) h.pq j
            omega
        have c0 : ¬ c = 0 := by omega
        have k0 : ¬ k < stN p q := by omega
        simp [hc, hn.1, k0, c0, ih]
      · simp [hc, ih]
    | false =>
      have ih := run_free h hp h1 h2 n i (k + 1) hi fun j hj => by
        by_cases y : j < k
        · exact hr j y
        · have : j = k := by omega
          rw [this]; exact hb
      rw [show i + (k + 1) = i + k + 1 from rfl] at ih
      by_cases hc : c = 0
      · subst hc
        by_cases hbk : back p q = true
        · have hS := (steady_ok h.q1 h.pq hp (of_decide_eq_true hbk)).1
          obtain ⟨k', k1, k2⟩ := lap_le h a0 hS
          have : ¬ stN p q < k + 1 := by
            intro y
            have hk' : k' < k + 1 := by omega
            have : (blk p q 0 (sz p q 0 a i) k').1 < nxt p q 0 (blk p q 0 (sz p q 0 a i) k').2 := by
              by_cases w : k' < k
              · exact hright k' w
              · have e : k' = k := by omega
                subst e
                have := hb
                rw [sgn_iff h h1 h2, blk_shift hi, decide_eq_false_iff_not] at this
                omega
            omega
          simp [this, ih]
        · simp [hbk, ih]
      · simp [hc, ih]
theorem run_free0 {p q c a : Int} (h : Rk p q c) (hp : p ≤ 61) (h1 : 1 ≤ a) (h2 : a < nxt p q c a) (n : Nat) : bar p q c 0 ((List.range n).map (sgn p q c a)) = false := by
  have := run_free h hp h1 h2 n 0 0 rfl fun j hj => by omega
  simpa using this
end GB
set_option Elab.async false
set_option linter.all false
set_option maxRecDepth 100000
set_option maxHeartbeats 2000000
namespace GB
open PySem L2
/-! ### LAPS: there is one, or there never is -/
/-- growth k + 1 comes back -/
def bk (p q c a : Int) (k : Nat) : Prop := nxt p q c (blk p q c a k).2 ≤ (blk p q c a k).1
instance {p q c a : Int} {k : Nat} : Decidable (bk p q c a k) := by unfold bk; infer_instance
/-- a bound from below, without START and c -/
def lowS (p q : Int) : Nat → Int
  | 0 => -q
  | k + 1 => (if 0 ≤ hgh p q k then hgh p q k else q * hgh p q k) + q * lowS p q k
theorem nxt_e {p q c a : Int} (h : Rk p q c) (hc : 1 ≤ c) : c ≤ q * nxt p q c a - p * a ∧ q * nxt p q c a - p * a ≤ q * c := by
  unfold nxt
  have h1 := Int.lt_mul_ediv_self_add (x := p * a) (k := q) h.q0
  have h2 := Int.mul_ediv_self_le (x := p * a) (k := q) (by have := h.q1; omega)
  rw [Int.mul_add]
  have hq := h.q1
  have h3 : c + q - 1 ≤ q * c := by
    have t : (q - 1) * 1 ≤ (q - 1) * c := Int.mul_le_mul_of_nonneg_left hc (by omega)
    have e : (q - 1) * c = q * c - c := by rw [Int.sub_mul, Int.one_mul]
    omega
  omega
theorem sur_low {p q c : Int} (h : Rk p q c) (hc : 1 ≤ c) : ∀ (k : Nat) (a : Int), hgh p q k * a + c * lowS p q k ≤ q ^ (k + 1) * sur p q c k a
  | 0, a => by
    have := (nxt_e (a := a) h hc).2
    show -p * a + c * (-q) ≤ q ^ 1 * (-nxt p q c a)
    rw [Int.pow_succ, Int.pow_zero, Int.one_mul, Int.mul_neg, Int.neg_mul, Int.mul_neg, Int.mul_comm c q]; omega
  | k + 1, a => by
    have ih := sur_low h hc k (nxt p q c a)
    obtain ⟨e0, e1⟩ := nxt_e (a := a) h hc
    have h2 := Int.mul_le_mul_of_nonneg_left ih (show 0 ≤ q by have := h.q1; omega)
    show (q ^ (k + 2) + p * hgh p q k) * a + c * ((if 0 ≤ hgh p q k then hgh p q k else q * hgh p q k) + q * lowS p q k) ≤ q ^ (k + 2) * (a + sur p q c k (nxt p q c a))
    have h1 : c * (if 0 ≤ hgh p q k then hgh p q k else q * hgh p q k) ≤ hgh p q k * (q * nxt p q c a - p * a) := by
      split
      · rename_i hg
        have := Int.mul_le_mul_of_nonneg_left e0 hg
        rw [Int.mul_comm c]; exact this
      · rename_i hg
        have := Int.mul_le_mul_of_nonpos_left (show hgh p q k ≤ 0 by omega) e1
        have e : c * (q * hgh p q k) = hgh p q k * (q * c) := by rw [Int.mul_comm c, Int.mul_comm q, Int.mul_assoc]
        rw [e]; exact this
    generalize (if 0 ≤ hgh p q k then hgh p q k else q * hgh p q k) = T at *
    rw [Int.mul_add, Int.add_mul, Int.mul_add]
    have e2 : q ^ (k + 2) * sur p q c k (nxt p q c a) = q * (q ^ (k + 1) * sur p q c k (nxt p q c a)) := by rw [Int.pow_succ q (k + 1), Int.mul_comm (q ^ (k + 1)) q, Int.mul_assoc]
    have e3 : q * (hgh p q k * nxt p q c a + c * lowS p q k) = hgh p q k * (q * nxt p q c a) + c * (q * lowS p q k) := by rw [Int.mul_add, Int.mul_left_comm, Int.mul_left_comm q c]
    have e4 : p * hgh p q k * a = hgh p q k * (p * a) := by rw [Int.mul_assoc, Int.mul_left_comm]
    rw [e3] at h2
    rw [Int.mul_sub] at h1
    omega
def loGo (p q : Int) : Nat → Nat → Int → Int → Int → Bool
  | 0, _, _, _, _ => false
  | f + 1, k, h, w, l => if decide (0 ≤ h) && decide (0 ≤ l) then true else loGo p q f (k + 1) (w * q + p * h) (w * q) ((if 0 ≤ h then h else q * h) + q * l)
theorem loGo_ok {p q : Int} : ∀ (f k : Nat), loGo p q f k (hgh p q k) (q ^ (k + 1)) (lowS p q k) = true → ∃ K, K < k + f ∧ 0 ≤ hgh p q K ∧ 0 ≤ lowS p q K
  | 0, k, h => by simp [loGo] at h
  | f + 1, k, h => by
    unfold loGo at h
    split at h
    · rename_i c
      rw [Bool.and_eq_true, decide_eq_true_eq, decide_eq_true_eq] at c
      exact ⟨k, by omega, c.1, c.2⟩
    · have e1 : q ^ (k + 1) * q + p * hgh p q k = hgh p q (k + 1) := by show _ = q ^ (k + 2) + p * hgh p q k; rw [Int.pow_succ q (k + 1)]
      rw [e1, ← Int.pow_succ] at h
      obtain ⟨K, h1, h2⟩ := loGo_ok f (k + 1) h
      exact ⟨K, by omega, h2⟩
theorem lo_all : (List.range 61).all (fun p => (List.range (p + 1)).all fun q => !back (p + 1) (q + 1) || loGo (p + 1) (q + 1) 150 0 (-(p + 1)) (q + 1) (-(q + 1))) = true := by decide +kernel
theorem lo_ok {p q : Int} (hq : 1 ≤ q) (hpq : q ≤ p) (hp : p ≤ 61) (hb : p * p ≤ p * q + q * q) : ∃ K, K < 150 ∧ 0 ≤ hgh p q K ∧ 0 ≤ lowS p q K := by
  have h := List.all_eq_true.mp lo_all (p - 1).toNat (List.mem_range.mpr (by omega))
  have h2 := List.all_eq_true.mp h (q - 1).toNat (List.mem_range.mpr (by omega))
  rw [show (((p - 1).toNat : Int) + 1) = p by omega, show (((q - 1).toNat : Int) + 1) = q by omega] at h2
  have : back p q = true := decide_eq_true hb
  rw [this, Bool.not_true, Bool.false_or] at h2
  have e : q = q ^ (0 + 1) := by rw [Int.pow_succ, Int.pow_zero, Int.one_mul]
  have h3 : loGo p q 150 0 (hgh p q 0) (q ^ (0 + 1)) (lowS p q 0) = true := by rw [← e]; exact h2
  obtain ⟨K, h1, h4⟩ := loGo_ok 150 0 h3
  exact ⟨K, by omega, h4⟩
/-- a rule that comes back does so from any START, soon -/
theorem back_soon {p q c a : Int} (h : Rk p q c) (hp : p ≤ 61) (ha : 1 ≤ a) (hb : p * p ≤ p * q + q * q) : ∃ k, k ≤ 150 ∧ bk p q c a k := by
  by_cases hc : c = 0
  · subst hc
    obtain ⟨hS, hK⟩ := steady_ok h.q1 h.pq hp hb
    obtain ⟨k, h1, h2⟩ := lap_le h ha hS
    exact ⟨k, by omega, h2⟩
  · have hc1 : 1 ≤ c := by have := h.c0; omega
    obtain ⟨K, k1, k2, k3⟩ := lo_ok h.q1 h.pq hp hb
    have hs := sur_low h hc1 K a
    have n1 := Int.mul_nonneg k2 (show 0 ≤ a by omega)
    have n2 := Int.mul_nonneg (show 0 ≤ c by omega) k3
    have hq : (0 : Int) < q ^ (K + 1) := Int.pow_pos h.q0
    have h0 : 0 ≤ sur p q c K a := by
      apply Classical.byContradiction
      intro y
      have := Int.mul_le_mul_of_nonneg_left (show sur p q c K a ≤ -1 by omega) (show 0 ≤ q ^ (K + 1) by omega)
      omega
    apply Classical.byContradiction
    intro z
    have hr : ∀ j, j < K → (blk p q c a j).1 < nxt p q c (blk p q c a j).2 := fun j hj => by
      apply Classical.byContradiction
      intro y
      exact z ⟨j, by omega, by unfold bk; omega⟩
    exact z ⟨K, by omega, (back_iff hr).mpr h0⟩
/-- the LAP from a START -/
def LapIs (p q c a : Int) (o : Option Nat) : Prop := match o with
  | some K => bk p q c a K ∧ ∀ k, k < K → ¬ bk p q c a k
  | none => ∀ k, ¬ bk p q c a k
theorem LapIs.uniq {p q c a : Int} {o o' : Option Nat} (h : LapIs p q c a o) (g : LapIs p q c a o') : o = o' := by
  cases o with
  | none => cases o' with
    | none => rfl
    | some L => exact absurd g.1 (h L)
  | some K => cases o' with
    | none => exact absurd h.1 (g K)
    | some L =>
      rcases Nat.lt_trichotomy K L with z | z | z
      · exact absurd h.1 (g.2 K z)
      · rw [z]
      · exact absurd g.1 (h.2 L z)
theorem least_bk {p q c a : Int} : ∀ (n : Nat), bk p q c a n → ∃ K, K ≤ n ∧ bk p q c a K ∧ ∀ k, k < K → ¬ bk p q c a k
  | n, h => by
    by_cases z : ∃ k, k < n ∧ bk p q c a k
    · obtain ⟨k, hk, hb⟩ := z
      obtain ⟨K, h1, h2⟩ := least_bk k hb
      exact ⟨K, by omega, h2⟩
    · exact ⟨n, Nat.le_refl _, h, fun k hk hb => z ⟨k, hk, hb⟩⟩
termination_by n => n
/-- with cells more and no steady lap there never is a BACK -/
theorem never1 {p q c a : Int} (h : Rk p q c) (hc : 1 ≤ c) (ha : 1 ≤ a) (hb : p * q + q * q < p * p) (k : Nat) : ¬ bk p q c a k := fun hz => by
  obtain ⟨K, h1, h2, h3⟩ := least_bk k hz
  exact lap_ge h hc ha (fun j hj => by have := h3 j hj; unfold bk at this; omega) h2 fun j hj => Int.le_of_lt (hgh_neg h.q1 hb h.pq j)
theorem sz_le {p q c a : Int} (h : Rk p q c) (h1 : 1 ≤ a) (h2 : a < nxt p q c a) (k : Nat) : a + k ≤ (blk p q c a k).2 := by
  induction k with
  | zero => show a + 0 ≤ a; omega
  | succ k ih =>
    have := blk_ok h h1 h2 k
    rw [blk_snd]
    omega
/-- nothing added, no steady lap, great enough: there is no BACK any more -/
theorem never0 {p q a : Int} (h : Rk p q 0) (h1 : 1 ≤ a) (h2 : a < nxt p q 0 a) {i : Nat} (hi : (blk p q 0 a i).1 < nxt p q 0 (blk p q 0 a i).2) (hs : p * (q - 1) ≤ (blk p q 0 a i).2 * (p * p - p * q - q * q)) (hsp : 0 < p * p - p * q - q * q) :
    ∀ j, (blk p q 0 a (i + j)).1 < nxt p q 0 (blk p q 0 a (i + j)).2
  | 0 => hi
  | j + 1 => by
    have ih := never0 h h1 h2 hi hs hsp j
    have hq := h.q1
    have hpq := h.pq
    have mono : ∀ j, (blk p q 0 a i).2 ≤ (blk p q 0 a (i + j)).2 := fun j => by
      induction j with
      | zero => exact Int.le_refl _
      | succ j ih =>
        have := (blk_ok h h1 h2 (i + j)).2.2
        rw [show i + (j + 1) = (i + j) + 1 from rfl, blk_snd]
        omega
    have hbig : p * (q - 1) ≤ (blk p q 0 a (i + j)).2 * (p * p - p * q - q * q) := Int.le_trans hs (Int.mul_le_mul_of_nonneg_right (mono j) (by omega))
    have hS : blk p q 0 a (i + (j + 1)) = ((blk p q 0 a (i + j)).1 + (blk p q 0 a (i + j)).2, nxt p q 0 (blk p q 0 a (i + j)).2) := by
      rw [show i + (j + 1) = (i + j) + 1 from rfl, blk_S, if_neg (by omega)]
    rw [hS]
    show (blk p q 0 a (i + j)).1 + (blk p q 0 a (i + j)).2 < nxt p q 0 (nxt p q 0 (blk p q 0 a (i + j)).2)
    generalize hA : (blk p q 0 a (i + j)).2 = A at *
    generalize hB : nxt p q 0 A = B at *
    -- A + B is at most the next size but one
    have b1 : p * A - (q - 1) ≤ q * B := by
      rw [← hB]
      unfold nxt
      have := Int.lt_mul_ediv_self_add (x := p * A) (k := q) h.q0
      rw [Int.add_zero]; omega
    have b2 : p * B - (q - 1) ≤ q * nxt p q 0 B := by
      unfold nxt
      have := Int.lt_mul_ediv_self_add (x := p * B) (k := q) h.q0
      rw [Int.add_zero]; omega
    have key : A + B ≤ nxt p q 0 B := by
      apply Classical.byContradiction
      intro z
      have z1 : nxt p q 0 B ≤ A + B - 1 := by omega
      have z2 := Int.mul_le_mul_of_nonneg_left z1 (show 0 ≤ q by omega)
      -- (p - q) B <= q A - 1
      have z3 : (p - q) * B ≤ q * A - 1 := by
        rw [Int.sub_mul]
        rw [Int.mul_sub, Int.mul_add] at z2
        omega
      have z4 := Int.mul_le_mul_of_nonneg_left z3 (show 0 ≤ q by omega)
      have z5 := Int.mul_le_mul_of_nonneg_left b1 (show 0 ≤ p - q by omega)
      have e1 : q * ((p - q) * B) = (p - q) * (q * B) := by rw [Int.mul_left_comm]
      rw [e1] at z4
      have z6 : (p - q) * (p * A - (q - 1)) ≤ q * (q * A - 1) := Int.le_trans z5 z4
      have e2 : (p - q) * (p * A - (q - 1)) = A * (p * p - p * q) - (p - q) * (q - 1) := by
        simp only [Int.mul_sub, Int.sub_mul, Int.mul_assoc, Int.mul_comm, Int.mul_left_comm]
      have e3 : q * (q * A - 1) = A * (q * q) - q := by
        simp only [Int.mul_sub, Int.mul_assoc, Int.mul_comm, Int.mul_left_comm]
        omega
      rw [e2, e3] at z6
      have e4 : A * (p * p - p * q - q * q) = A * (p * p - p * q) - A * (q * q) := Int.mul_sub A (p * p - p * q) (q * q)
      rw [e4] at hbig
      have e5 : (p - q) * (q - 1) = p * (q - 1) - q * (q - 1) := by rw [Int.sub_mul]
      have e6 : q * (q - 1) = q * q - q := by rw [Int.mul_sub, Int.mul_one]
      have e7 : 0 ≤ q * q := Int.mul_nonneg (by omega) (by omega)
      have hq2 : q ≤ q * q := by
        have := Int.mul_le_mul_of_nonneg_left hq (show 0 ≤ q by omega)
        omega
      omega
    omega
end GB
set_option Elab.async false
set_option linter.all false
set_option maxRecDepth 100000
set_option maxHeartbeats 2000000
namespace GB
open PySem L2
/-! ### laps one behind another, backs -/
theorem least_ex {p q c a : Int} (h : ∃ k, bk p q c a k) : ∃ K, bk p q c a K ∧ ∀ k, k < K → ¬ bk p q c a k := by
  obtain ⟨n, hn⟩ := h
  obtain ⟨K, _, h1, h2⟩ := least_bk n hn
  exact ⟨K, h1, h2⟩
open Classical in
noncomputable def lapN (p q c a : Int) : Option Nat := if h : ∃ k, bk p q c a k then some (Classical.choose (least_ex h)) else none
theorem lapN_is (p q c a : Int) : LapIs p q c a (lapN p q c a) := by
  unfold lapN
  split
  · rename_i h
    exact Classical.choose_spec (least_ex h)
  · rename_i h
    exact fun k hk => h ⟨k, hk⟩
theorem lapN_eq {p q c a : Int} {o : Option Nat} (h : LapIs p q c a o) : lapN p q c a = o := (lapN_is p q c a).uniq h
def optV (o : Option Nat) : PV := match o with
  | some K => .int K
  | none => .non
def fbO (p q c a : Int) (o : Option Nat) : PV := match o with
  | some K => .tup [.int K, .int (sz p q c a (K + 1))]
  | none => .non
noncomputable def lapsL (p q c : Int) : Nat → Int → List Nat
  | 0, _ => []
  | n + 1, a => match lapN p q c a with
    | some K => K :: lapsL p q c n (sz p q c a (K + 1))
    | none => []
theorem lapsL_len {p q c : Int} : ∀ (n : Nat) (a : Int), (lapsL p q c n a).length ≤ n
  | 0, _ => Nat.le_refl _
  | n + 1, a => by
    unfold lapsL
    split
    · rename_i K _
      have := lapsL_len (p := p) (q := q) (c := c) n (sz p q c a (K + 1))
      rw [List.length_cons]; omega
    · simp
def isB (p q c a : Int) (k : Nat) : Bool := decide ((blk p q c a k).1 = 0)
def bks (p q c a : Int) (n : Nat) : List Nat := (List.range (n + 1)).filter fun k => decide (0 < k) && isB p q c a k
theorem bks_eq (p q c a : Int) (n : Nat) : bks p q c a n = (List.range' 1 n).filter (isB p q c a) := by
  unfold bks
  rw [List.range_eq_range', show List.range' 0 (n + 1) = 0 :: List.range' 1 n from rfl, List.filter_cons]
  simp only [Nat.lt_irrefl, decide_false, Bool.false_and, Bool.false_eq_true, if_false]
  apply List.filter_congr
  intro k hk
  rw [List.mem_range'_1] at hk
  rw [decide_eq_true (by omega : 0 < k), Bool.true_and]
theorem sz_ok {p q c a : Int} (h : Rk p q c) (h1 : 1 ≤ a) (h2 : a < nxt p q c a) (k : Nat) : a ≤ sz p q c a k ∧ sz p q c a k < nxt p q c (sz p q c a k) := by
  have := blk_ok h h1 h2 k
  rw [blk_sz] at this
  exact this.2
theorem sz_add (p q c a : Int) (i : Nat) : ∀ j, sz p q c a (i + j) = sz p q c (sz p q c a i) j
  | 0 => rfl
  | j + 1 => by
    show nxt p q c (sz p q c a (i + j)) = nxt p q c (sz p q c (sz p q c a i) j)
    rw [sz_add p q c a i j]
theorem isB_bk {p q c a : Int} (h : Rk p q c) (h1 : 1 ≤ a) (h2 : a < nxt p q c a) {i : Nat} (hi : (blk p q c a i).1 = 0) (j : Nat) : isB p q c a (i + (j + 1)) = decide (bk p q c (sz p q c a i) j) := by
  obtain ⟨s1, s2⟩ := sz_ok h h1 h2 i
  have := sgn_iff h (show 1 ≤ sz p q c a i by omega) s2 j
  unfold sgn at this
  unfold isB bk
  rw [blk_shift hi, this]
/-- the growths behind which the laps end -/
def endsL : Nat → List Nat → List Nat
  | _, [] => []
  | i, K :: r => (i + K + 1) :: endsL (i + K + 1) r
theorem endsL_gt : ∀ (r : List Nat) (i : Nat), ∀ x ∈ endsL i r, i < x
  | [], i, x, hx => by simp [endsL] at hx
  | K :: r, i, x, hx => by
    unfold endsL at hx
    rcases List.mem_cons.mp hx with rfl | hx
    · omega
    · have := endsL_gt r _ x hx; omega
theorem endsL_len : ∀ (r : List Nat) (i : Nat), (endsL i r).length = r.length
  | [], i => rfl
  | K :: r, i => by unfold endsL; rw [List.length_cons, endsL_len, List.length_cons]
theorem filter_nil' {α : Type} {P : α → Bool} {l : List α} (h : ∀ x ∈ l, P x = false) : l.filter P = [] := by
  apply List.filter_eq_nil_iff.mpr
  intro x hx
  rw [h x hx]; simp
theorem bks_ends {p q c a : Int} (h : Rk p q c) (h1 : 1 ≤ a) (h2 : a < nxt p q c a) {N : Nat} : ∀ (n i : Nat), (blk p q c a i).1 = 0 → i ≤ N →
    ((List.range' (i + 1) (N - i)).filter (isB p q c a)).take n = (endsL i (lapsL p q c n (sz p q c a i))).filter fun k => decide (k ≤ N)
  | 0, i, _, _ => by simp [lapsL, endsL]
  | n + 1, i, hi, hN => by
    have hL := lapN_is p q c (sz p q c a i)
    unfold lapsL
    cases hK : lapN p q c (sz p q c a i) with
    | none =>
      rw [hK] at hL
      rw [filter_nil']
      · rfl
      · intro x hx
        rw [List.mem_range'_1] at hx
        obtain ⟨j, rfl⟩ : ∃ j, x = i + (j + 1) := ⟨x - i - 1, by omega⟩
        rw [isB_bk h h1 h2 hi]
        exact decide_eq_false (hL j)
    | some K =>
      rw [hK] at hL
      obtain ⟨hb, hn⟩ := hL
      have hz : ∀ x, i + 1 ≤ x → x < i + K + 1 → isB p q c a x = false := fun x x1 x2 => by
        obtain ⟨j, rfl⟩ : ∃ j, x = i + (j + 1) := ⟨x - i - 1, by omega⟩
        rw [isB_bk h h1 h2 hi]
        exact decide_eq_false (hn j (by omega))
      have hY : isB p q c a (i + K + 1) = true := by
        rw [show i + K + 1 = i + (K + 1) from rfl, isB_bk h h1 h2 hi]
        exact decide_eq_true hb
      by_cases hle : i + K + 1 ≤ N
      · have e : List.range' (i + 1) (N - i) = List.range' (i + 1) K ++ (i + K + 1) :: List.range' (i + K + 1 + 1) (N - (i + K + 1)) := by
          have e1 := List.range'_append_1 (s := i + 1) (m := K) (n := N - i - K)
          rw [show K + (N - i - K) = N - i by omega] at e1
          rw [← e1, show N - i - K = (N - (i + K + 1)) + 1 by omega, List.range'_succ, show i + 1 + K = i + K + 1 by omega]
        have ih := bks_ends h h1 h2 (N := N) n (i + K + 1) (of_decide_eq_true hY) hle
        rw [e, List.filter_append, filter_nil' (l := List.range' (i + 1) K) (fun x hx => by
          rw [List.mem_range'_1] at hx
          exact hz x (by omega) (by omega)), List.nil_append, List.filter_cons, hY, if_pos rfl, List.take_succ_cons, ih]
        show _ = (endsL i (K :: lapsL p q c n (sz p q c (sz p q c a i) (K + 1)))).filter _
        rw [← sz_add]
        show _ = ((i + K + 1) :: endsL (i + K + 1) (lapsL p q c n (sz p q c a (i + (K + 1))))).filter _
        rw [List.filter_cons, decide_eq_true hle, if_pos rfl]; rfl
      · rw [filter_nil' (l := List.range' (i + 1) (N - i)) (fun x hx => by
          rw [List.mem_range'_1] at hx
          exact hz x (by omega) (by omega))]
        rw [filter_nil']
        · rfl
        · intro x hx
          have : i + K + 1 ≤ x := by
            rcases List.mem_cons.mp hx with rfl | hx
            · exact Nat.le_refl _
            · exact Nat.le_of_lt (endsL_gt _ _ x hx)
          exact decide_eq_false (by omega)
theorem bks_ends0 {p q c a : Int} (h : Rk p q c) (h1 : 1 ≤ a) (h2 : a < nxt p q c a) (N n : Nat) : (bks p q c a N).take n = (endsL 0 (lapsL p q c n a)).filter fun k => decide (k ≤ N) := by
  rw [bks_eq]
  exact bks_ends h h1 h2 n 0 rfl (Nat.zero_le _)
theorem bks_len (p q c a : Int) (n : Nat) : (bks p q c a n).length ≤ n := by
  rw [bks_eq]
  have := List.length_filter_le (isB p q c a) (List.range' 1 n)
  rwa [List.length_range'] at this
/-! ### p = q, whatever p -/
theorem nxt_pp {p s x : Int} (hp : 1 ≤ p) : nxt p p s x = nxt 1 1 s x := by
  unfold nxt
  rw [Int.mul_ediv_cancel_left _ (by omega), Int.mul_ediv_cancel_left _ (by decide)]
theorem blk_pp {p s a : Int} (hp : 1 ≤ p) : ∀ k, blk p p s a k = blk 1 1 s a k
  | 0 => rfl
  | k + 1 => by rw [blk_S, blk_S, blk_pp hp k, nxt_pp hp]
theorem blk_addp {p s a : Int} (hp : 1 ≤ p) (hs : 1 ≤ s) (ha : 1 ≤ a) (k : Nat) : blk p p s a k = (placeA s a k, sizeA s a k) := by rw [blk_pp hp, blk_add hs ha]
theorem rp {p s : Int} (hp : 1 ≤ p) (hp2 : p ≤ 1000000) (hs : 1 ≤ s) : Rk p p s := ⟨hp, Int.le_refl _, hp2, by omega, fun _ => hs⟩
theorem okp {p s a n : Int} (hp : 1 ≤ p) (hp2 : p ≤ 1000000) (hs : 1 ≤ s) (ha : 1 ≤ a) (h0 : 0 ≤ n) (h1 : n ≤ 100000) : OkS p p s a n := ⟨rp hp hp2 hs, ha, by rw [nxt_pp hp, nxt_one]; omega, h0, h1⟩
theorem bks_add {p s a : Int} (hp : 1 ≤ p) (hs : 1 ≤ s) (ha : 1 ≤ a) (n : Nat) : bks p p s a n = (goneL s a n).map fun k => 1 + k := by
  rw [bks_eq, List.range'_eq_map_range, List.filter_map]
  unfold goneL
  congr 1
  apply List.filter_congr
  intro k _
  show decide ((blk p p s a (1 + k)).1 = 0) = isBack s a k
  rw [blk_addp hp hs ha]
  unfold isBack
  rw [show ((1 + k : Nat) : Int) = 1 + (k : Int) by omega]
theorem bkA {p s a : Int} (hp : 1 ≤ p) (hs : 1 ≤ s) (ha : 1 ≤ a) (k : Nat) : bk p p s a k ↔ placeA s a ((k : Int) + 1) = 0 := by
  have ps := placeA_step (n := k) hs ha (by omega)
  have e1 : nxt p p s (sizeA s a k) = sizeA s a ((k : Int) + 1) := by rw [nxt_pp hp, nxt_one]; simp only [sizeA, Int.mul_add, Int.mul_one]; omega
  unfold bk
  rw [blk_addp hp hs ha]
  simp only [e1]
  constructor
  · intro h; rw [ps, if_pos h]
  · intro h
    apply Classical.byContradiction
    intro z
    rw [ps, if_neg z] at h
    have b := blk_ok (rp (p := 1) (by decide) (by decide) hs) ha (okp (p := 1) (n := 0) (by decide) (by decide) hs ha (by omega) (by omega)).st k
    rw [blk_add hs ha] at b
    simp only at b
    omega
theorem lapN_add {p s a : Int} (hp : 1 ≤ p) (hs : 1 ≤ s) (ha : 1 ≤ a) : lapN p p s a = some (lapA s a).toNat := by
  have hL := ahead_3 s a
  have e : ((lapA s a).toNat : Int) = lapA s a := Int.toNat_of_nonneg (by unfold aheadA at hL; omega)
  refine lapN_eq ⟨(bkA hp hs ha _).mpr ((placeA_0 hs ha (by omega)).mpr (.inr (by rw [e]; unfold aheadA; simp))), fun k hk hz => ?_⟩
  rcases (placeA_0 hs ha (by omega)).mp ((bkA hp hs ha k).mp hz) with q | q
  · omega
  · unfold aheadA at q; omega
theorem tpS_add {p s a : Int} (hp : 1 ≤ p) (hs : 1 ≤ s) (ha : 1 ≤ a) (k : Nat) : tpS p p s a k = if endA s a ((k : Int) + 1) > endA s a k then endA s a ((k : Int) + 1) else endA s a k := by
  unfold tpS
  rw [blk_addp hp hs ha, blk_addp hp hs ha, endA_eq (by omega), endA_eq (by omega)]
  rfl
theorem mark_add {p s a : Int} (hp : 1 ≤ p) (hs : 1 ≤ s) (ha : 1 ≤ a) (n : Nat) : maxI a ((List.range n).map fun k => tpS p p s a k) = markA s a n := by
  rw [← mx_needs hs ha]
  congr 1
  refine List.map_congr_left fun k _ => tpS_add hp hs ha k
/-! ### the program's tuples -/
def blocksV (p q c a : Int) (n : Nat) : PV := .tup (blks p q c a n)
def szs (p q c a : Int) (n : Nat) : List PV := (List.range (n + 1)).map fun k => .int (sz p q c a k)
def sizesV (p q c a : Int) (n : Nat) : PV := .tup (szs p q c a n)
theorem szs_len (p q c a : Int) (n : Nat) : (szs p q c a n).length = n + 1 := by simp [szs]
theorem szs_S (p q c a : Int) (n : Nat) : szs p q c a (n + 1) = szs p q c a n ++ [.int (sz p q c a (n + 1))] := by
  unfold szs
  rw [List.range_succ, List.map_append]; rfl
theorem szs_last (p q c a : Int) (n : Nat) : atI (szs p q c a n) (-1) = some (.int (sz p q c a n)) := by
  cases n with
  | zero => rfl
  | succ n => rw [szs_S]; exact atI_last _ _
theorem szs_noref (p q c a : Int) (n : Nat) : norefL (szs p q c a n) = true := norefL_map fun k => rfl
theorem sum_szs (p q c a : Int) : ∀ n : Nat, ((List.range n).map fun k => sz p q c a k).sum = sumS p q c a n
  | 0 => rfl
  | n + 1 => by rw [List.range_succ, List.map_append, List.sum_append, sum_szs]; simp [sumS]
theorem cut_m1 (xs : List PV) (x : PV) : cutP (xs ++ [x]) none (some (-1)) = xs := by
  unfold cutP
  have e : HT.sIx (xs ++ [x]).length (xs ++ [x]).length (some (-1)) = xs.length := by
    rw [List.length_append, List.length_singleton]
    unfold HT.sIx
    simp
    try omega
  rw [e, HT.sIx_none, List.drop_zero, Nat.sub_zero, List.take_left]
noncomputable def lapV (p q c a : Int) : PV := optV (lapN p q c a)
noncomputable def fbV (p q c a : Int) : PV := fbO p q c a (lapN p q c a)
noncomputable def lapsV (p q c a : Int) (n : Nat) : PV := .tup ((lapsL p q c n a).map fun k => .int (k : Nat))
def backsV (p q c a : Int) (n : Nat) : PV := .tup ((bks p q c a n).map fun k => .int (k : Nat))
def placesV (p q c a : Int) (n : Nat) : PV := .tup ((List.range (n + 1)).map fun k => .int (blk p q c a k).1)
/-- a spec over (rule, START, number), p to 61 -/
def by3s (f : Int → Int → Int → Int → Nat → PV) (as : List PV) : Option PV := match as with
  | [.tup [.int p, .int q, .int c], .int a, .int n] => if okS p q c a n && decide (p ≤ 61) then some (f p q c a n.toNat) else none
  | _ => none
theorem by3s_up {tr : Bool} {g : DF} {f : Int → Int → Int → Int → Nat → PV} (he : ∀ (p q c a : Int) (n : Nat), OkS p q c a n → p ≤ 61 → Ends tr g [rl p q c, .int a, .int n] (f p q c a n)) (as : List PV) (v : PV) (_ : as.length = 3) (hv : by3s f as = some v) : Ends tr g as v := by
  unfold by3s at hv
  split at hv
  · rename_i p q c a n _
    split at hv
    · rename_i hk
      cases hv
      rw [Bool.and_eq_true, decide_eq_true_eq] at hk
      have h3 := (okS_of hk.1).n0
      have e := he p q c a n.toNat (by rw [Int.toNat_of_nonneg h3]; exact okS_of hk.1) hk.2
      rw [Int.toNat_of_nonneg h3] at e
      exact e
    · cases hv
  · cases hv
theorem g3s {tr : Bool} {f : Int → Int → Int → Int → Nat → PV} {p q c a n : Int} {μ : Mu} (h : OkS p q c a n) (hp : p ≤ 61) : gZ tr (by3s f) [rl p q c, .int a, .int n] μ = .ok (f p q c a n.toNat) μ := by
  refine gZ_ok rfl ?_
  unfold by3s
  simp only [okS_mk h.r h.a1 h.st h.n0 h.n1, decide_eq_true hp, Bool.and_self, if_true]
theorem blks_add {p s a : Int} (hp : 1 ≤ p) (hs : 1 ≤ s) (ha : 1 ≤ a) (n : Nat) : blks p p s a n = (List.range (n + 1)).map fun k => .tup [.int (placeA s a k), .int (sizeA s a k)] := by
  unfold blks
  refine List.map_congr_left fun k _ => ?_
  rw [blk_addp hp hs ha]; rfl
theorem szs_add {p s a : Int} (hp : 1 ≤ p) (hs : 1 ≤ s) (ha : 1 ≤ a) (n : Nat) : szs p p s a n = (List.range (n + 1)).map fun k => .int (sizeA s a k) := by
  unfold szs
  refine List.map_congr_left fun k _ => ?_
  rw [← blk_sz, blk_addp hp hs ha]
end GB
set_option Elab.async false
set_option linter.all false
set_option maxRecDepth 100000
set_option maxHeartbeats 2000000
namespace GB
open PySem L2
/-! ### fractions -/
def frT (a b : Int) : Int := a / Int.gcd a b
def frB (a b : Int) : Int := b / Int.gcd a b
def frV (a b : Int) : PV := .tup [.int (frT a b), .int (frB a b)]
theorem fr_g {a b : Int} (hb : 0 < b) : 0 < (Int.gcd a b : Int) ∧ frT a b * Int.gcd a b = a ∧ frB a b * Int.gcd a b = b := by
  have hg0 : 0 < Int.gcd a b := Nat.gcd_pos_of_pos_right _ (by omega)
  exact ⟨by omega, Int.ediv_mul_cancel (Int.gcd_dvd_left ..), Int.ediv_mul_cancel (Int.gcd_dvd_right ..)⟩
theorem fr_pos {a b : Int} (hb : 0 < b) : 0 < frB a b := by
  obtain ⟨g0, g1, g2⟩ := fr_g (a := a) hb
  apply Classical.byContradiction
  intro z
  have := Int.mul_nonpos_of_nonpos_of_nonneg (show frB a b ≤ 0 by omega) (show 0 ≤ (Int.gcd a b : Int) by omega)
  omega
theorem fr_cross {a b : Int} (hb : 0 < b) : frT a b * b = a * frB a b := by
  obtain ⟨g0, g1, g2⟩ := fr_g (a := a) hb
  generalize frT a b = x at *
  generalize frB a b = y at *
  generalize (Int.gcd a b : Int) = g at *
  rw [← g1, ← g2]
  ac_rfl
theorem cop_dvd {x y v : Int} (h : y ∣ x * v) (hc : Int.gcd x y = 1) : y ∣ v := by
  have h1 : y.natAbs ∣ v.natAbs * x.natAbs := by
    rw [← Int.natAbs_mul, Int.mul_comm v x]
    exact Int.natAbs_dvd_natAbs.mpr h
  have h2 : Nat.Coprime y.natAbs x.natAbs := by
    show Nat.gcd _ _ = 1
    rw [Nat.gcd_comm]; exact hc
  exact Int.natAbs_dvd_natAbs.mp (h2.dvd_of_dvd_mul_right h1)
theorem fr_cop {a b : Int} (hb : 0 < b) : Int.gcd (frT a b) (frB a b) = 1 := by
  obtain ⟨g0, g1, g2⟩ := fr_g (a := a) hb
  exact Int.gcd_ediv_gcd_ediv_gcd (by omega)
/-- the lowest terms are one -/
theorem fr_uniq {a b c d : Int} (hb : 0 < b) (hd : 0 < d) (h : a * d = c * b) : frT a b = frT c d ∧ frB a b = frB c d := by
  have e1 := fr_cross (a := a) hb
  have e2 := fr_cross (a := c) hd
  have p1 := fr_pos (a := a) hb
  have p2 := fr_pos (a := c) hd
  have c1 := fr_cop (a := a) hb
  have c2 := fr_cop (a := c) hd
  obtain ⟨gb, g1, g2⟩ := fr_g (a := a) hb
  obtain ⟨gd, g3, g4⟩ := fr_g (a := c) hd
  generalize frT a b = x at *
  generalize frB a b = y at *
  generalize frT c d = u at *
  generalize frB c d = v at *
  generalize (Int.gcd a b : Int) = g at *
  generalize (Int.gcd c d : Int) = k at *
  have key : x * v = u * y := by
    have h' : (x * v) * (g * k) = (u * y) * (g * k) := by
      have h1 : a * d = x * g * (v * k) := by rw [g1, g4]
      have h2 : c * b = u * k * (y * g) := by rw [g3, g2]
      have h3 : x * g * (v * k) = x * v * (g * k) := by ac_rfl
      have h4 : u * k * (y * g) = u * y * (g * k) := by ac_rfl
      rw [← h3, ← h1, h, h2, h4]
    exact Int.eq_of_mul_eq_mul_right (by have := Int.mul_pos gb gd; omega) h'
  have d1 : y ∣ v := by
    have : y ∣ x * v := by rw [key]; exact Int.dvd_mul_left ..
    exact cop_dvd this c1
  have d2 : v ∣ y := by
    have : v ∣ u * y := by rw [← key]; exact Int.dvd_mul_left ..
    exact cop_dvd this c2
  have hyv : y = v := by
    have := Int.le_of_dvd p2 d1
    have := Int.le_of_dvd p1 d2
    omega
  subst hyv
  exact ⟨Int.eq_of_mul_eq_mul_right (by omega) key, rfl⟩
theorem fr_le {a b : Int} (hb : 0 < b) : frB a b ≤ b ∧ (frT a b).natAbs ≤ a.natAbs := by
  obtain ⟨g0, g1, g2⟩ := fr_g (a := a) hb
  have p1 := fr_pos (a := a) hb
  constructor
  · have := Int.mul_le_mul_of_nonneg_left (show 1 ≤ (Int.gcd a b : Int) by omega) (show 0 ≤ frB a b by omega)
    omega
  · have e : a.natAbs = (frT a b).natAbs * (Int.gcd a b) := by
      have h := congrArg Int.natAbs g1
      rw [Int.natAbs_mul, Int.natAbs_natCast] at h
      exact h.symm
    have := Nat.mul_le_mul_left (frT a b).natAbs (show 1 ≤ Int.gcd a b by omega)
    omega
theorem fr_neg {a b : Int} (hb : 0 < b) : frT a b < 0 ↔ a < 0 := by
  obtain ⟨g0, g1, g2⟩ := fr_g (a := a) hb
  constructor
  · intro h
    have := Int.mul_neg_of_neg_of_pos h g0
    omega
  · intro h
    apply Classical.byContradiction
    intro z
    have := Int.mul_nonneg (show 0 ≤ frT a b by omega) (show 0 ≤ (Int.gcd a b : Int) by omega)
    omega
/-! ### losses -/
/-- 1 and how far all gaps below a number are under 0, q ^ k times -/
def upS (p q : Int) : Nat → Int
  | 0 => 1
  | k + 1 => q * upS p q k - hgh p q k
theorem upS_pos {p q : Int} (hq : 1 ≤ q) : ∀ k, (∀ j, j < k → hgh p q j ≤ 0) → 1 ≤ upS p q k
  | 0, _ => Int.le_refl _
  | k + 1, h => by
    have ih := upS_pos hq k fun j hj => h j (by omega)
    have := h k (by omega)
    have := Int.mul_le_mul_of_nonneg_left ih (show 0 ≤ q by omega)
    show 1 ≤ q * upS p q k - hgh p q k
    omega
theorem lowS_up {p q : Int} : ∀ k, (∀ j, j < k → hgh p q j ≤ 0) → lowS p q k = -(q * upS p q k)
  | 0, _ => by simp [lowS, upS]
  | k + 1, h => by
    have ih := lowS_up k fun j hj => h j (by omega)
    have hk := h k (by omega)
    show (if 0 ≤ hgh p q k then hgh p q k else q * hgh p q k) + q * lowS p q k = -(q * (q * upS p q k - hgh p q k))
    rw [ih, Int.mul_sub, Int.mul_neg]
    split
    · have : hgh p q k = 0 := by omega
      rw [this]; omega
    · omega
/-- nothing added: a bound from above -/
theorem sur_up {p q : Int} (h : Rk p q 0) : ∀ (k : Nat) (a : Int), (∀ j, j < k → hgh p q j ≤ 0) → q ^ (k + 1) * sur p q 0 k a ≤ hgh p q k * a + (q - 1) * upS p q k
  | 0, a, _ => by
    show q ^ 1 * (-nxt p q 0 a) ≤ -p * a + (q - 1) * 1
    have h1 := Int.lt_mul_ediv_self_add (x := p * a) (k := q) h.q0
    rw [Int.pow_succ, Int.pow_zero, Int.one_mul, Int.mul_neg, Int.neg_mul]
    unfold nxt
    rw [Int.add_zero]
    omega
  | k + 1, a, hg => by
    have ih := sur_up h k (nxt p q 0 a) fun j hj => hg j (by omega)
    have hk := hg k (by omega)
    have hq := h.q1
    have h2 := Int.mul_le_mul_of_nonneg_left ih (show 0 ≤ q by omega)
    have e0 := nxt_le0 (a := a) h
    have e1 : p * a - (q - 1) ≤ q * nxt p q 0 a := by
      have h1 := Int.lt_mul_ediv_self_add (x := p * a) (k := q) h.q0
      unfold nxt
      rw [Int.add_zero]; omega
    have m1 := Int.mul_le_mul_of_nonpos_left hk e1
    show q ^ (k + 2) * (a + sur p q 0 k (nxt p q 0 a)) ≤ (q ^ (k + 2) + p * hgh p q k) * a + (q - 1) * (q * upS p q k - hgh p q k)
    rw [Int.mul_add, Int.add_mul, Int.mul_sub]
    have e2 : q ^ (k + 2) * sur p q 0 k (nxt p q 0 a) = q * (q ^ (k + 1) * sur p q 0 k (nxt p q 0 a)) := by rw [Int.pow_succ q (k + 1), Int.mul_comm (q ^ (k + 1)) q, Int.mul_assoc]
    have e3 : q * (hgh p q k * nxt p q 0 a + (q - 1) * upS p q k) = hgh p q k * (q * nxt p q 0 a) + (q - 1) * (q * upS p q k) := by rw [Int.mul_add, Int.mul_left_comm, Int.mul_left_comm q (q - 1)]
    have e4 : p * hgh p q k * a = hgh p q k * (p * a) := by rw [Int.mul_assoc, Int.mul_left_comm]
    have e5 : hgh p q k * (p * a - (q - 1)) = hgh p q k * (p * a) - (q - 1) * hgh p q k := by rw [Int.mul_sub, Int.mul_comm (hgh p q k) (q - 1)]
    rw [e3] at h2
    omega
/-! ### from where on all laps are the steady one -/
def stO (p q : Int) : Option Nat := if p * p ≤ p * q + q * q then some (stN p q) else none
theorem stV_O (p q : Int) : stV p q = optV (stO p q) := by
  unfold stV stO
  split <;> rfl
def soonF (p q : Int) (k : Nat) : Int := (q - 1) * upS p q k / (-hgh p q k) + 1
def lateF (p q c : Int) (k : Nat) : Int := -(-(c * (q * upS p q k)) / hgh p q k)
def mostN (p q : Int) : Nat := match stO p q with
  | some K => K - 1
  | none => 20
def sureF (p q c : Int) : Int := if 0 < c then (match stO p q with
    | some K => lateF p q c K
    | none => 1) else maxI 1 ((List.range (mostN p q)).map fun i => soonF p q (i + 1))
theorem soon_ok {p q a : Int} (h : Rk p q 0) {k : Nat} (hg : ∀ j, j ≤ k → hgh p q j < 0) (hs : 0 ≤ sur p q 0 k a) : a < soonF p q k := by
  have h1 := sur_up h k a fun j hj => Int.le_of_lt (hg j (by omega))
  have h2 := hg k (Nat.le_refl _)
  have h3 : 0 ≤ q ^ (k + 1) * sur p q 0 k a := Int.mul_nonneg (Int.pow_nonneg (by have := h.q1; omega)) hs
  have h4 : a ≤ (q - 1) * upS p q k / (-hgh p q k) := (Int.le_ediv_iff_mul_le (by omega)).mpr (by
    rw [Int.mul_neg, Int.mul_comm a]; omega)
  unfold soonF; omega
theorem late_ok {p q c a : Int} (h : Rk p q c) (hc : 1 ≤ c) {K : Nat} (hg : ∀ j, j < K → hgh p q j ≤ 0) (h0 : 0 < hgh p q K) (ha : lateF p q c K ≤ a) : 0 ≤ sur p q c K a := by
  have h1 := sur_low h hc K a
  rw [lowS_up K hg] at h1
  have h2 : c * (q * upS p q K) ≤ hgh p q K * a := by
    unfold lateF at ha
    have := Int.lt_mul_ediv_self_add (x := -(c * (q * upS p q K))) (k := hgh p q K) h0
    have h5 : -a ≤ -(c * (q * upS p q K)) / hgh p q K := by omega
    have h6 := Int.mul_le_mul_of_nonneg_left h5 (show 0 ≤ hgh p q K by omega)
    have h7 := Int.mul_ediv_self_le (x := -(c * (q * upS p q K))) (k := hgh p q K) (by omega)
    rw [Int.mul_neg] at h6
    omega
  rw [Int.mul_neg] at h1
  apply Classical.byContradiction
  intro z
  have hm := Int.mul_le_mul_of_nonneg_left (show sur p q c K a ≤ -1 by omega) (show 0 ≤ q ^ (K + 1) from Int.pow_nonneg (by have := h.q1; omega))
  rw [Int.mul_neg, Int.mul_one] at hm
  have hpw : 0 < q ^ (K + 1) := Int.pow_pos h.q0
  omega
theorem sz_mono {p q c a b : Int} (h : Rk p q c) (hab : a ≤ b) : ∀ k, sz p q c a k ≤ sz p q c b k
  | 0 => hab
  | k + 1 => by
    have ih := sz_mono h hab k
    show nxt p q c (sz p q c a k) ≤ nxt p q c (sz p q c b k)
    unfold nxt
    have := Int.ediv_le_ediv h.q0 (Int.mul_le_mul_of_nonneg_left ih (show 0 ≤ p by have := h.q1; have := h.pq; omega))
    omega
theorem far_all : (List.range 12).all (fun p => (List.range (p + 1)).all fun q => back (p + 1) (q + 1) || decide (((p : Int) + 1) * ((q : Int) + 1 - 1) ≤ sz (p + 1) (q + 1) 0 (if 2 * ((q : Int) + 1) ≤ p + 1 then 1 else 2) 20 * (((p : Int) + 1) * (p + 1) - (p + 1) * (q + 1) - (q + 1) * (q + 1)))) = true := by decide +kernel
theorem pos_all : (List.range 12).all (fun p => (List.range (p + 1)).all fun q => !back (p + 1) (q + 1) || (decide (0 < hgh (p + 1) (q + 1) (stN (p + 1) (q + 1))) && decide (stN (p + 1) (q + 1) ≤ 7) && decide (20 * (((q : Int) + 1) * upS (p + 1) (q + 1) (stN (p + 1) (q + 1))) ≤ 1600 * hgh (p + 1) (q + 1) (stN (p + 1) (q + 1))))) = true := by decide +kernel
theorem all12 {f : Nat → Nat → Bool} (h : (List.range 12).all (fun p => (List.range (p + 1)).all fun q => f p q) = true) {p q : Int} (hq : 1 ≤ q) (hpq : q ≤ p) (hp : p ≤ 12) : f (p - 1).toNat (q - 1).toNat = true :=
  List.all_eq_true.mp (List.all_eq_true.mp h (p - 1).toNat (List.mem_range.mpr (by omega))) (q - 1).toNat (List.mem_range.mpr (by omega))
theorem steady12 {p q : Int} (hq : 1 ≤ q) (hpq : q ≤ p) (hp : p ≤ 12) (hb : p * p ≤ p * q + q * q) : 0 < hgh p q (stN p q) ∧ stN p q ≤ 7 ∧ 20 * (q * upS p q (stN p q)) ≤ 1600 * hgh p q (stN p q) := by
  have h := all12 pos_all hq hpq hp
  rw [show (((p - 1).toNat : Int) + 1) = p by omega, show (((q - 1).toNat : Int) + 1) = q by omega] at h
  have hk : back p q = true := decide_eq_true hb
  simp only [hk, Bool.not_true, Bool.false_or, Bool.and_eq_true, decide_eq_true_eq] at h
  exact ⟨h.1.1, h.1.2, h.2⟩
theorem hgh_lt0 {p q : Int} (hq : 1 ≤ q) (hpq : q < p) {K : Nat} (hS : Steady p q K) : ∀ j, j < K → hgh p q j < 0 := fun j hj => by
  rcases Nat.lt_or_ge j 2 with z | z
  · have : j = 0 ∨ j = 1 := by omega
    rcases this with rfl | rfl
    · show -p < 0; omega
    · rw [hgh1]
      have : q * q < p * p := by
        have h1 := Int.mul_le_mul_of_nonneg_left (show q + 1 ≤ p by omega) (show 0 ≤ q by omega)
        have h2 := Int.mul_le_mul_of_nonneg_right (show q ≤ p by omega) (show 0 ≤ p by omega)
        rw [Int.mul_add] at h1
        omega
      omega
  · exact hS.lt j z hj
theorem maxI_le {m : Int} : ∀ {xs : List Int} {b : Int}, maxI m xs ≤ b ↔ m ≤ b ∧ ∀ x ∈ xs, x ≤ b
  | [], b => by simp [maxI]
  | x :: xs, b => by
    unfold maxI
    rw [maxI_le]
    constructor
    · rintro ⟨h1, h2⟩
      have : m ≤ b ∧ x ≤ b := by split at h1 <;> omega
      exact ⟨this.1, fun y hy => by
        rcases List.mem_cons.mp hy with rfl | hy
        · exact this.2
        · exact h2 y hy⟩
    · rintro ⟨h1, h2⟩
      refine ⟨?_, fun y hy => h2 y (List.mem_cons_of_mem _ hy)⟩
      have := h2 x List.mem_cons_self
      split <;> omega
/-- from there on: the steady lap -/
theorem sure_ok {p q c a : Int} (h : Rk p q c) (hp : p ≤ 12) (h1 : 1 ≤ a) (h2 : a < nxt p q c a) (hs : sureF p q c ≤ a) : lapN p q c a = stO p q := by
  have hq := h.q1
  have hpq := h.pq
  refine lapN_eq ?_
  unfold sureF at hs
  by_cases hc : 0 < c
  · rw [if_pos hc] at hs
    unfold stO at hs ⊢
    by_cases hb : p * p ≤ p * q + q * q
    · rw [if_pos hb] at hs ⊢
      obtain ⟨hS, hK⟩ := steady_ok hq hpq (by omega) hb
      obtain ⟨g0, _, _⟩ := steady12 hq hpq hp hb
      have hle := hS.le hq hpq
      have hn : ∀ k, k < stN p q → ¬ bk p q c a k := fun k hk hz => by
        obtain ⟨K, k1, k2, k3⟩ := least_bk k hz
        exact lap_ge h hc h1 (fun j hj => by have := k3 j hj; unfold bk at this; omega) k2 fun j hj => hle j (by omega)
      refine ⟨?_, hn⟩
      exact (back_iff fun j hj => by have := hn j hj; unfold bk at this; omega).mpr (late_ok h hc hle g0 hs)
    · rw [if_neg hb]
      exact never1 h hc h1 (by omega)
  · have hc0 : c = 0 := by have := h.c0; omega
    subst hc0
    have hlt : q < p := by
      rcases Int.lt_or_eq_of_le hpq with z | z
      · exact z
      · have := h.c1 z.symm; omega
    rw [if_neg hc, maxI_le] at hs
    have hsoon : ∀ k, (∀ j, j ≤ k → hgh p q j < 0) → k ≤ mostN p q → (∀ j, j < k → ¬ bk p q 0 a j) → ¬ bk p q 0 a k := fun k hg hk hn hb => by
      have h0 := (back_iff fun j hj => by have := hn j hj; unfold bk at this; omega).mp hb
      have h3 := soon_ok h hg h0
      cases k with
      | zero =>
        unfold bk at hb
        have : nxt p q 0 a ≤ 0 := hb
        omega
      | succ k =>
        have := hs.2 _ (List.mem_map.mpr ⟨k, List.mem_range.mpr (by omega), rfl⟩)
        omega
    unfold stO mostN at *
    by_cases hb : p * p ≤ p * q + q * q
    · simp only [if_pos hb, stO] at hsoon ⊢
      obtain ⟨hS, hK⟩ := steady_ok hq hpq (by omega) hb
      obtain ⟨k, k1, k2⟩ := lap_le h h1 hS
      obtain ⟨K, k3, k4, k5⟩ := least_bk k k2
      rcases Nat.lt_or_ge K (stN p q) with z | z
      · exact absurd k4 (hsoon K (fun j hj => hgh_lt0 hq hlt hS j (by omega)) (by omega) k5)
      · have : K = stN p q := by omega
        rw [← this]
        exact ⟨k4, k5⟩
    · simp only [if_neg hb, stO] at hsoon ⊢
      have hn : ∀ k, k ≤ 20 → ¬ bk p q 0 a k := fun k hk hz => by
        obtain ⟨K, k3, k4, k5⟩ := least_bk k hz
        exact hsoon K (fun j _ => hgh_neg hq (by omega) hpq j) (by omega) k5 k4
      have hf := all12 far_all hq hpq hp
      rw [show (((p - 1).toNat : Int) + 1) = p by omega, show (((q - 1).toNat : Int) + 1) = q by omega] at hf
      have hk : back p q = false := decide_eq_false hb
      simp only [hk, Bool.false_or, decide_eq_true_eq] at hf
      have hm : (if 2 * q ≤ p then (1 : Int) else 2) ≤ a := by
        split
        · exact h1
        · apply Classical.byContradiction
          intro z
          have : a = 1 := by omega
          subst this
          unfold nxt at h2
          rw [Int.mul_one, Int.add_zero] at h2
          have : p / q < 2 := Int.ediv_lt_of_lt_mul h.q0 (by omega)
          omega
      have hsz := sz_mono h hm 20
      rw [← blk_sz p q 0 a] at hsz
      have hmul := Int.mul_le_mul_of_nonneg_right hsz (show 0 ≤ p * p - p * q - q * q by omega)
      intro k
      rcases Nat.lt_or_ge 20 k with z | z
      · have := never0 h h1 h2 (i := 20) (by have := hn 20 (Nat.le_refl _); unfold bk at this; omega) (Int.le_trans hf hmul) (by omega) (k - 20)
        rw [show 20 + (k - 20) = k by omega] at this
        unfold bk; omega
      · exact hn k z
def gm (x y : Nat) : Nat := if y = 0 then 0 else 1 + (x.log2 + y.log2 + if x < y then 1 else 0)
theorem gm_lt {x y : Nat} (hy : 0 < y) : gm y (x % y) < gm x y := by
  have hm := Nat.mod_lt x hy
  unfold gm
  rw [if_neg (show ¬ y = 0 by omega)]
  by_cases h0 : x % y = 0
  · rw [if_pos h0]; omega
  · rw [if_neg h0, if_neg (show ¬ y < x % y by omega)]
    by_cases hxy : x < y
    · rw [if_pos hxy, Nat.mod_eq_of_lt hxy]; omega
    · rw [if_neg hxy]
      have hx : x ≠ 0 := by omega
      have h2 : 2 * (x % y) ≤ x := by
        have := Nat.div_add_mod x y
        have h1 : 1 ≤ x / y := (Nat.le_div_iff_mul_le hy).mpr (by omega)
        have : y * 1 ≤ y * (x / y) := Nat.mul_le_mul_left _ h1
        omega
      have h3 : (x % y).log2 + 1 ≤ x.log2 := by
        rw [Nat.le_log2 hx, Nat.pow_succ]
        have := Nat.log2_self_le h0
        omega
      omega
theorem gm_lid {x y k : Nat} (hx : x < 2 ^ k) (hy : y < 2 ^ k) (hk : 0 < k) (h9 : k ≤ 9000) : gm x y < lid := by
  have h1 := log2_lt hx hk
  have h2 := log2_lt hy hk
  clear hx hy
  unfold gm lid
  split
  · omega
  · split <;> omega
theorem gcd_step (x y : Nat) : Nat.gcd y (x % y) = Nat.gcd x y := by
  rw [Nat.gcd_comm y (x % y), ← Nat.gcd_rec y x, Nat.gcd_comm]
theorem ipow_le {a b : Int} (h0 : 0 ≤ a) (h : a ≤ b) : ∀ m : Nat, a ^ m ≤ b ^ m
  | 0 => by simp
  | m + 1 => by
    rw [Int.pow_succ, Int.pow_succ]
    have := Int.mul_le_mul_of_nonneg_right (ipow_le h0 h m) h0
    have := Int.mul_le_mul_of_nonneg_left h (show (0 : Int) ≤ b ^ m from Int.pow_nonneg (by omega))
    omega
theorem ipow_mono {a b : Nat} (h : a ≤ b) : (2 : Int) ^ a ≤ 2 ^ b := by
  obtain ⟨d, rfl⟩ := Nat.exists_eq_add_of_le h
  rw [Int.pow_add]
  have : (1 : Int) ≤ 2 ^ d := Int.pow_pos (by decide)
  have := Int.mul_le_mul_of_nonneg_left this (show (0 : Int) ≤ 2 ^ a from Int.pow_nonneg (by decide))
  omega
theorem nat_lt {x : Int} {k : Nat} (h0 : 0 ≤ x) (h : x < (2 : Int) ^ k) : x.natAbs < 2 ^ k := by
  have h2 : (((2 : Nat) ^ k : Nat) : Int) = (2 : Int) ^ k := by rw [Int.natCast_pow]; rfl
  omega
theorem bb_eq : BB = 2 ^ 1000 := rfl
theorem abs_bb {x : Int} {k : Nat} (h : x.natAbs < 2 ^ k) (hk : k ≤ 1000) : x.natAbs < BB := Nat.lt_of_lt_of_le h (Nat.pow_le_pow_right (by decide) hk)
theorem pw_abs {p : Int} (h0 : 0 ≤ p) (hp : p ≤ 64) (j : Nat) : (p ^ j).natAbs ≤ 2 ^ (6 * j) := by
  rw [Int.natAbs_pow, Nat.pow_mul]
  exact Nat.pow_le_pow_left (by omega) j
theorem pw_bb {p : Int} (h0 : 0 ≤ p) (hp : p ≤ 64) {j : Nat} (hj : j ≤ 160) : (p ^ j).natAbs < BB := by
  have := pw_abs h0 hp j
  exact Nat.lt_of_le_of_lt this (Nat.pow_lt_pow_right (by decide) (by omega))
theorem hgh_b {p q : Int} (hq : 1 ≤ q) (hpq : q ≤ p) : ∀ k, -(p ^ (k + 1)) ≤ hgh p q k ∧ hgh p q k ≤ k * p ^ (k + 1)
  | 0 => by simp [hgh, Int.pow_succ]; omega
  | k + 1 => by
    obtain ⟨i1, i2⟩ := hgh_b hq hpq k
    have hX : 0 ≤ p ^ (k + 1) := Int.pow_nonneg (by omega)
    have h1 := Int.mul_le_mul_of_nonneg_left i1 (show 0 ≤ p by omega)
    have h2 := Int.mul_le_mul_of_nonneg_left i2 (show 0 ≤ p by omega)
    have h3 := ipow_le (show 0 ≤ q by omega) hpq (k + 2)
    have h4 : 0 ≤ q ^ (k + 2) := Int.pow_nonneg (by omega)
    have e : p ^ (k + 1 + 1) = p * p ^ (k + 1) := by rw [Int.pow_succ, Int.mul_comm]
    have e2 : p ^ (k + 2) = p * p ^ (k + 1) := e
    show -(p ^ (k + 1 + 1)) ≤ q ^ (k + 2) + p * hgh p q k ∧ q ^ (k + 2) + p * hgh p q k ≤ ((k + 1 : Nat) : Int) * p ^ (k + 1 + 1)
    rw [e]
    rw [e2] at h3
    rw [Int.mul_neg] at h1
    rw [Int.mul_left_comm] at h2
    have e3 : ((k + 1 : Nat) : Int) * (p * p ^ (k + 1)) = k * (p * p ^ (k + 1)) + p * p ^ (k + 1) := by rw [Int.natCast_succ, Int.add_mul, Int.one_mul]
    rw [e3]
    omega
theorem upS_b {p q : Int} (hq : 1 ≤ q) (hpq : q ≤ p) : ∀ k, (∀ j, j < k → hgh p q j ≤ 0) → upS p q k ≤ (k + 1) * p ^ k
  | 0, _ => by simp [upS]
  | k + 1, h => by
    have ih := upS_b hq hpq k fun j hj => h j (by omega)
    have hu := upS_pos hq k fun j hj => h j (by omega)
    obtain ⟨i1, _⟩ := hgh_b hq hpq k
    have h1 : q * upS p q k ≤ p * upS p q k := Int.mul_le_mul_of_nonneg_right hpq (by omega)
    have h2 := Int.mul_le_mul_of_nonneg_left ih (show 0 ≤ p by omega)
    show q * upS p q k - hgh p q k ≤ (((k + 1 : Nat) : Int) + 1) * p ^ (k + 1)
    have e1 : p * (((k : Int) + 1) * p ^ k) = ((k : Int) + 1) * p ^ (k + 1) := by rw [Int.pow_succ, Int.mul_left_comm, Int.mul_comm p]
    have e2 : (((k + 1 : Nat) : Int) + 1) * p ^ (k + 1) = ((k : Int) + 1) * p ^ (k + 1) + p ^ (k + 1) := by rw [Int.natCast_succ, Int.add_mul ((k : Int) + 1), Int.one_mul]
    rw [e2]
    rw [e1] at h2
    omega
theorem small_mul {x y : Int} {n : Nat} (hn : n ≤ 1024) (h : x.natAbs ≤ n * y.natAbs) {j : Nat} (hy : y.natAbs ≤ 2 ^ j) (hj : j + 11 ≤ 1000) : x.natAbs < BB := by
  have h1 : n * y.natAbs ≤ 2 ^ 10 * 2 ^ j := Nat.mul_le_mul hn hy
  rw [← Nat.pow_add] at h1
  exact Nat.lt_of_le_of_lt (Nat.le_trans h h1) (Nat.pow_lt_pow_right (by decide) (by omega))
theorem hgh_bb {p q : Int} (hq : 1 ≤ q) (hpq : q ≤ p) (hp : p ≤ 64) {k : Nat} (hk : k ≤ 150) : (hgh p q k).natAbs < BB := by
  obtain ⟨h1, h2⟩ := hgh_b hq hpq k
  have hX : 0 ≤ p ^ (k + 1) := Int.pow_nonneg (by omega)
  refine small_mul (n := k + 1) (y := p ^ (k + 1)) (by omega) ?_ (pw_abs (by omega) hp (k + 1)) (by omega)
  obtain ⟨X, hX2⟩ : ∃ X : Nat, p ^ (k + 1) = X := ⟨(p ^ (k + 1)).toNat, by omega⟩
  rw [hX2] at h1 h2 ⊢
  have h3 : hgh p q k ≤ ((k * X : Nat) : Int) := by rw [Int.natCast_mul]; exact h2
  rw [Nat.add_mul, Nat.one_mul, Int.natAbs_natCast]
  omega
theorem upS_bb {p q : Int} (hq : 1 ≤ q) (hpq : q ≤ p) (hp : p ≤ 64) {k : Nat} (hk : k ≤ 150) (h : ∀ j, j < k → hgh p q j ≤ 0) : (upS p q k).natAbs < BB := by
  have h1 := upS_pos hq k h
  have h2 := upS_b hq hpq k h
  have hX : 0 ≤ p ^ k := Int.pow_nonneg (by omega)
  refine small_mul (n := k + 1) (y := p ^ k) (by omega) ?_ (pw_abs (by omega) hp k) (by omega)
  obtain ⟨X, hX2⟩ : ∃ X : Nat, p ^ k = X := ⟨(p ^ k).toNat, by omega⟩
  rw [hX2] at h2 ⊢
  have h3 : upS p q k ≤ (((k + 1) * X : Nat) : Int) := by rw [Int.natCast_mul]; exact h2
  rw [Int.natAbs_natCast]
  omega
theorem gap_sum (p q : Int) : ∀ n : Nat, ((List.range n).map fun j => p ^ j * q ^ (n + 1 - j)).sum - p ^ (n + 1) = hgh p q n
  | 0 => by simp [hgh, Int.pow_succ]
  | n + 1 => by
    have ih := gap_sum p q n
    rw [List.range_succ_eq_map, List.map_cons, List.sum_cons, List.map_map]
    have e : ((List.range n).map ((fun j => p ^ j * q ^ (n + 1 + 1 - j)) ∘ Nat.succ)).sum = p * ((List.range n).map fun j => p ^ j * q ^ (n + 1 - j)).sum := by
      have gen : ∀ ks : List Nat, (ks.map ((fun j => p ^ j * q ^ (n + 1 + 1 - j)) ∘ Nat.succ)).sum = p * (ks.map fun j => p ^ j * q ^ (n + 1 - j)).sum := by
        intro ks
        induction ks with
        | nil => simp
        | cons k ks ih =>
          rw [List.map_cons, List.sum_cons, ih, List.map_cons, List.sum_cons, Int.mul_add]
          show p ^ (k + 1) * q ^ (n + 1 + 1 - (k + 1)) + _ = _
          rw [show n + 1 + 1 - (k + 1) = n + 1 - k by omega, Int.pow_succ, Int.mul_comm (p ^ k) p, Int.mul_assoc]
      exact gen _
    rw [e]
    show _ = q ^ (n + 2) + p * hgh p q n
    rw [← ih, Int.mul_sub, Int.pow_zero, Int.one_mul]
    have e2 : p ^ (n + 1 + 1) = p * p ^ (n + 1) := by rw [Int.pow_succ, Int.mul_comm]
    rw [e2, show n + 1 + 1 - 0 = n + 2 from rfl]
    omega
theorem ediv_cross {a b c d : Int} (hb : 0 < b) (hd : 0 < d) (h : a * d = c * b) : a / b = c / d := by
  have e1 : a / b = (a * d) / (b * d) := (Int.mul_ediv_mul_of_pos_left a b hd).symm
  have e2 : c / d = (c * b) / (d * b) := (Int.mul_ediv_mul_of_pos_left c d hb).symm
  rw [e1, e2, h, Int.mul_comm b d]
theorem allB_fn {α : Type} (f : α → Bool) : ∀ xs : List α, allB (xs.map fun x => PV.bl (f x)) = some (xs.map f)
  | [] => rfl
  | x :: xs => by
    have := allB_fn f xs
    simp only [List.map_cons, allB, this, Option.map_some]
theorem fAll_fn {α : Type} (f : α → Bool) {xs : List α} {μ : Mu} : fAll [.lst (xs.map fun x => PV.bl (f x))] μ = .ok (.bl (xs.all f)) μ := by
  unfold fAll
  simp only [lstP_lst, Option.bind_some, allB_fn, List.all_map]
  rfl
theorem soon_all : (List.range 12).all (fun p => (List.range (p + 1)).all fun q => decide (p = q) || (List.range (mostN (p + 1) (q + 1))).all fun i => decide (soonF (p + 1) (q + 1) (i + 1) ≤ 200)) = true := by decide +kernel
theorem sure_le {p q c : Int} (h : Rk p q c) (hp : p ≤ 12) (hc2 : c ≤ 20) : 0 ≤ sureF p q c ∧ sureF p q c ≤ 20000 := by
  have hq := h.q1
  have hpq := h.pq
  have hc0 := h.c0
  unfold sureF
  by_cases hc : 0 < c
  · rw [if_pos hc]
    unfold stO
    by_cases hb : p * p ≤ p * q + q * q
    · rw [if_pos hb]
      obtain ⟨g0, _, g2⟩ := steady12 hq hpq hp hb
      obtain ⟨hS, hK⟩ := steady_ok hq hpq (by omega) hb
      have u0 := upS_pos hq _ (hS.le hq hpq)
      show 0 ≤ lateF p q c (stN p q) ∧ lateF p q c (stN p q) ≤ 20000
      unfold lateF
      have h1 : 0 ≤ q * upS p q (stN p q) := Int.mul_nonneg (by omega) (by omega)
      have h2 := Int.mul_le_mul_of_nonneg_right hc2 h1
      have h3 : -20000 ≤ -(c * (q * upS p q (stN p q))) / hgh p q (stN p q) := (Int.le_ediv_iff_mul_le g0).mpr (by omega)
      have h4 := Int.mul_nonneg hc0 h1
      have h5 : -(c * (q * upS p q (stN p q))) / hgh p q (stN p q) ≤ 0 := Int.ediv_nonpos_of_nonpos_of_neg (by omega) g0
      omega
    · rw [if_neg hb]
      show (0 : Int) ≤ 1 ∧ (1 : Int) ≤ 20000
      exact ⟨by decide, by decide⟩
  · rw [if_neg hc, maxI_le]
    obtain ⟨_, _, m3⟩ := maxI_spec ((List.range (mostN p q)).map fun i => soonF p q (i + 1)) 1
    have hne : ¬ p = q := fun z => by have := h.c1 z; omega
    refine ⟨?_, by decide, fun x hx => ?_⟩
    · have : (1 : Int) ≤ maxI 1 ((List.range (mostN p q)).map fun i => soonF p q (i + 1)) := (maxI_le.mp (Int.le_refl _)).1
      omega
    · obtain ⟨i, hi, rfl⟩ := List.mem_map.mp hx
      have ha := all12 soon_all hq hpq hp
      rw [show (((p - 1).toNat : Int) + 1) = p by omega, show (((q - 1).toNat : Int) + 1) = q by omega] at ha
      have hd : decide ((p - 1).toNat = (q - 1).toNat) = false := decide_eq_false (by omega)
      rw [hd, Bool.false_or] at ha
      have := of_decide_eq_true (List.all_eq_true.mp ha i hi)
      omega
theorem sure_small {p q c : Int} (h : Rk p q c) (hp : p ≤ 12) (hc2 : c ≤ 2) : 0 ≤ sureF p q c ∧ sureF p q c ≤ 900 := by
  have hq := h.q1
  have hpq := h.pq
  have hc0 := h.c0
  unfold sureF
  by_cases hc : 0 < c
  · rw [if_pos hc]
    unfold stO
    by_cases hb : p * p ≤ p * q + q * q
    · rw [if_pos hb]
      obtain ⟨g0, _, g2⟩ := steady12 hq hpq hp hb
      obtain ⟨hS, hK⟩ := steady_ok hq hpq (by omega) hb
      have u0 := upS_pos hq _ (hS.le hq hpq)
      show 0 ≤ lateF p q c (stN p q) ∧ lateF p q c (stN p q) ≤ 900
      unfold lateF
      have h1 : 0 ≤ q * upS p q (stN p q) := Int.mul_nonneg (by omega) (by omega)
      have h2 := Int.mul_le_mul_of_nonneg_right hc2 h1
      have h3 : -900 ≤ -(c * (q * upS p q (stN p q))) / hgh p q (stN p q) := (Int.le_ediv_iff_mul_le g0).mpr (by omega)
      have h4 := Int.mul_nonneg hc0 h1
      have h5 : -(c * (q * upS p q (stN p q))) / hgh p q (stN p q) ≤ 0 := Int.ediv_nonpos_of_nonpos_of_neg (by omega) g0
      omega
    · rw [if_neg hb]
      show (0 : Int) ≤ 1 ∧ (1 : Int) ≤ 900
      exact ⟨by decide, by decide⟩
  · rw [if_neg hc, maxI_le]
    obtain ⟨_, _, m3⟩ := maxI_spec ((List.range (mostN p q)).map fun i => soonF p q (i + 1)) 1
    have hne : ¬ p = q := fun z => by have := h.c1 z; omega
    refine ⟨?_, by decide, fun x hx => ?_⟩
    · have : (1 : Int) ≤ maxI 1 ((List.range (mostN p q)).map fun i => soonF p q (i + 1)) := (maxI_le.mp (Int.le_refl _)).1
      omega
    · obtain ⟨i, hi, rfl⟩ := List.mem_map.mp hx
      have ha := all12 soon_all hq hpq hp
      rw [show (((p - 1).toNat : Int) + 1) = p by omega, show (((q - 1).toNat : Int) + 1) = q by omega] at ha
      have hd : decide ((p - 1).toNat = (q - 1).toNat) = false := decide_eq_false (by omega)
      rw [hd, Bool.false_or] at ha
      have := of_decide_eq_true (List.all_eq_true.mp ha i hi)
      omega
/-! ### p and q so many times as great -/
theorem nxt_k {p q c a k : Int} (hq : 1 ≤ q) (hk : 1 ≤ k) : nxt (p * k) (q * k) c a = nxt p q c a := by
  unfold nxt
  rw [show p * k * a = p * a * k by ac_rfl, Int.mul_ediv_mul_of_pos_left _ _ (by omega)]
theorem blk_k {p q c a k : Int} (hq : 1 ≤ q) (hk : 1 ≤ k) : ∀ n, blk (p * k) (q * k) c a n = blk p q c a n
  | 0 => rfl
  | n + 1 => by rw [blk_S, blk_S, blk_k hq hk n, nxt_k hq hk]
theorem bk_k {p q c a k : Int} (hq : 1 ≤ q) (hk : 1 ≤ k) (n : Nat) : bk (p * k) (q * k) c a n ↔ bk p q c a n := by
  unfold bk
  rw [blk_k hq hk, nxt_k hq hk]
theorem lapN_k {p q c a k : Int} (hq : 1 ≤ q) (hk : 1 ≤ k) : lapN (p * k) (q * k) c a = lapN p q c a := by
  refine lapN_eq ?_
  have h := lapN_is p q c a
  cases e : lapN p q c a with
  | none =>
    rw [e] at h
    exact fun n hn => h n ((bk_k hq hk n).mp hn)
  | some K =>
    rw [e] at h
    exact ⟨(bk_k hq hk K).mpr h.1, fun n hn hz => h.2 n hn ((bk_k hq hk n).mp hz)⟩
theorem sz_k {p q c k : Int} (hq : 1 ≤ q) (hk : 1 ≤ k) (a : Int) : ∀ n, sz (p * k) (q * k) c a n = sz p q c a n
  | 0 => rfl
  | n + 1 => by
    show nxt (p * k) (q * k) c (sz (p * k) (q * k) c a n) = nxt p q c (sz p q c a n)
    rw [sz_k hq hk a n, nxt_k hq hk]
theorem lapsL_k {p q c k : Int} (hq : 1 ≤ q) (hk : 1 ≤ k) : ∀ (n : Nat) (a : Int), lapsL (p * k) (q * k) c n a = lapsL p q c n a
  | 0, _ => rfl
  | n + 1, a => by
    show (match lapN (p * k) (q * k) c a with | some K => K :: lapsL (p * k) (q * k) c n (sz (p * k) (q * k) c a (K + 1)) | none => []) = (match lapN p q c a with | some K => K :: lapsL p q c n (sz p q c a (K + 1)) | none => [])
    rw [lapN_k hq hk]
    cases lapN p q c a with
    | none => rfl
    | some K =>
      show K :: lapsL (p * k) (q * k) c n (sz (p * k) (q * k) c a (K + 1)) = K :: lapsL p q c n (sz p q c a (K + 1))
      rw [sz_k hq hk, lapsL_k hq hk n]
theorem hgh_k {p q k : Int} : ∀ j, hgh (p * k) (q * k) j = k ^ (j + 1) * hgh p q j
  | 0 => by
    show -(p * k) = k ^ 1 * -p
    rw [Int.pow_succ, Int.pow_zero, Int.one_mul, Int.mul_neg, Int.mul_comm]
  | j + 1 => by
    show (q * k) ^ (j + 2) + p * k * hgh (p * k) (q * k) j = k ^ (j + 2) * (q ^ (j + 2) + p * hgh p q j)
    rw [hgh_k j, Int.mul_pow, Int.mul_add, Int.pow_succ k (j + 1)]
    have e1 : q ^ (j + 2) * (k ^ (j + 1) * k) = k ^ (j + 1) * k * q ^ (j + 2) := by ac_rfl
    have e2 : p * k * (k ^ (j + 1) * hgh p q j) = k ^ (j + 1) * k * (p * hgh p q j) := by ac_rfl
    rw [e1, e2]
theorem stO_k {p q k : Int} (hq : 1 ≤ q) (hpq : q ≤ p) (hk : 1 ≤ k) (hp : p * k ≤ 61) : stO (p * k) (q * k) = stO p q := by
  have hk2 : 0 < k * k := Int.mul_pos (by omega) (by omega)
  have hpp : p ≤ p * k := by
    have := Int.mul_le_mul_of_nonneg_left hk (show 0 ≤ p by omega)
    omega
  have hqk : 1 ≤ q * k := by
    have := Int.mul_pos (show 0 < q by omega) (show 0 < k by omega)
    omega
  have hpqk : q * k ≤ p * k := Int.mul_le_mul_of_nonneg_right hpq (by omega)
  have e : (p * k * (p * k) ≤ p * k * (q * k) + q * k * (q * k)) ↔ (p * p ≤ p * q + q * q) := by
    have e1 : p * k * (p * k) = p * p * (k * k) := by ac_rfl
    have e2 : p * k * (q * k) = p * q * (k * k) := by ac_rfl
    have e3 : q * k * (q * k) = q * q * (k * k) := by ac_rfl
    rw [e1, e2, e3, ← Int.add_mul]
    exact ⟨fun h => Int.le_of_mul_le_mul_right h hk2, fun h => Int.mul_le_mul_of_nonneg_right h (by omega)⟩
  unfold stO
  by_cases hb : p * p ≤ p * q + q * q
  · rw [if_pos hb, if_pos (e.mpr hb)]
    obtain ⟨hS, _⟩ := steady_ok hq hpq (by omega) hb
    obtain ⟨hS', _⟩ := steady_ok hqk hpqk hp (e.mpr hb)
    have hpw : ∀ j, 0 < k ^ (j + 1) := fun j => Int.pow_pos (by omega)
    have : Steady (p * k) (q * k) (stN p q) := ⟨hS.k2, by
      rw [hgh_k]
      exact Int.mul_nonneg (Int.le_of_lt (hpw _)) hS.ge, fun j h1 h2 => by
      rw [hgh_k]
      exact Int.mul_neg_of_pos_of_neg (hpw _) (hS.lt j h1 h2)⟩
    rw [hS'.uniq this]
  · rw [if_neg hb, if_neg (fun z => hb (e.mp z))]
theorem Rk.k {p q c k : Int} (h : Rk p q c) (hk : 1 ≤ k) (hp : p * k ≤ 1000000) : Rk (p * k) (q * k) c :=
  ⟨by have := Int.mul_pos (show 0 < q from h.q0) (show 0 < k by omega); omega, Int.mul_le_mul_of_nonneg_right h.pq (by omega), hp, h.c0, fun z => h.c1 (Int.eq_of_mul_eq_mul_right (by omega) z)⟩
end GB
set_option Elab.async false
set_option linter.all false
set_option maxRecDepth 100000
set_option maxHeartbeats 2000000
namespace GB
open PySem L2
/-! ### shares, in numbers -/
def hh (p q : Int) : Nat → Int
  | 0 => 1
  | m + 1 => hh p q m * p + q ^ (m + 1)
theorem hh_alt (p q : Int) : ∀ m, hh p q (m + 1) = p ^ (m + 1) + q * hh p q m
  | 0 => by simp [hh, Int.pow_succ]
  | m + 1 => by
    have h := hh_alt p q m
    have e1 : p ^ (m + 2) = p ^ (m + 1) * p := Int.pow_succ ..
    have e2 : q ^ (m + 2) = q ^ (m + 1) * q := Int.pow_succ ..
    have e3 : hh p q (m + 2) = hh p q (m + 1) * p + q ^ (m + 2) := rfl
    have e4 : hh p q (m + 1) = hh p q m * p + q ^ (m + 1) := rfl
    rw [e3, e1, e2]
    rw [show hh p q (m + 1) * p = (p ^ (m + 1) + q * hh p q m) * p by rw [← h]]
    rw [e4, Int.add_mul, Int.mul_add, Int.add_assoc, Int.mul_assoc q, Int.mul_comm (q ^ (m + 1)) q]
theorem hh_pos {p q : Int} (hp : 0 < p) (hq : 0 < q) : ∀ m, 0 < hh p q m
  | 0 => by simp [hh]
  | m + 1 => by
    have := Int.mul_pos (hh_pos hp hq m) hp
    have : 0 < q ^ (m + 1) := Int.pow_pos hq
    show 0 < hh p q m * p + q ^ (m + 1)
    omega
theorem hh_le {p q : Int} (hq : 0 < q) (hpq : q ≤ p) : ∀ m, hh p q m ≤ (2 * p) ^ m
  | 0 => by simp [hh]
  | m + 1 => by
    have h := Int.mul_le_mul_of_nonneg_right (hh_le hq hpq m) (show (0 : Int) ≤ p by omega)
    have h2 : q ^ (m + 1) ≤ (2 * p) ^ m * p := by
      rw [Int.pow_succ]
      have a : q ^ m ≤ (2 * p) ^ m := ipow_le (by omega) (by omega) m
      have b := Int.mul_le_mul_of_nonneg_right a (show (0 : Int) ≤ q by omega)
      have c := Int.mul_le_mul_of_nonneg_left hpq (show (0 : Int) ≤ (2 * p) ^ m from Int.pow_nonneg (by omega))
      omega
    show hh p q m * p + q ^ (m + 1) ≤ (2 * p) ^ (m + 1)
    have e : (2 * p) ^ (m + 1) = 2 * ((2 * p) ^ m * p) := by rw [Int.pow_succ, ← Int.mul_assoc, ← Int.mul_assoc, Int.mul_comm 2 ((2 * p) ^ m)]
    rw [e]; omega
theorem hh_lt {p q : Int} (hq : 0 < q) (hpq : q ≤ p) (hp : p ≤ 1000000) {m : Nat} (hm : m ≤ 400) : (hh p q m).natAbs < 2 ^ 8800 := by
  refine nat_lt (Int.le_of_lt (hh_pos (by omega) hq m)) (Int.lt_of_le_of_lt (Int.le_trans (hh_le hq hpq m) (ipow_le (b := 2 ^ 21) (by omega) (by omega) m)) ?_)
  rw [← Int.pow_mul]
  exact Int.pow_lt_pow_of_lt (by decide) (by omega)
theorem pw_lt {p : Int} (h0 : 0 ≤ p) (hp : p ≤ 1000000) {m : Nat} (hm : m ≤ 400) : (p ^ m).natAbs < 2 ^ 8800 := by
  refine nat_lt (Int.pow_nonneg h0) (Int.lt_of_le_of_lt (ipow_le (b := 2 ^ 21) (by omega) (by omega) m) ?_)
  rw [← Int.pow_mul]
  exact Int.pow_lt_pow_of_lt (by decide) (by omega)
theorem sum_lt {p q c a : Int} (h : Rk p q c) (h1 : 1 ≤ a) (h2 : a < nxt p q c a) (ha : a < (2 : Int) ^ 140) (hc : c < (2 : Int) ^ 140) {k : Nat} (hk : k ≤ 400) :
    0 ≤ (blk p q c a k).1 + (blk p q c a k).2 ∧ ((blk p q c a k).1 + (blk p q c a k).2).natAbs < 2 ^ 8800 ∧ 0 < (blk p q c a k).2 ∧ (blk p q c a k).2.natAbs < 2 ^ 8800 := by
  obtain ⟨i1, i2, i3⟩ := blk_ok h h1 h2 k
  have i4 := blk_fst h h1 h2 k
  have i5 := blk_lt h h1 ha hc k
  have i6 : (k : Int) * (blk p q c a k).2 ≤ 400 * (blk p q c a k).2 := Int.mul_le_mul_of_nonneg_right (by omega) (by omega)
  have i7 : (2 : Int) ^ (140 + 21 * k) ≤ 2 ^ 8540 := ipow_mono (by omega)
  have i8 : (2 : Int) ^ 8549 = 2 ^ 8540 * 2 ^ 9 := by rw [← Int.pow_add]
  have i9 : (2 : Int) ^ 8540 * 401 ≤ 2 ^ 8540 * 2 ^ 9 := Int.mul_le_mul_of_nonneg_left (by decide) (Int.pow_nonneg (by decide))
  have i10 : (2 : Int) ^ 8549 ≤ 2 ^ 8800 := ipow_mono (by decide)
  have ix : (0 : Int) < 2 ^ 8540 := Int.pow_pos (by decide)
  rw [← i8] at i9
  generalize (2 : Int) ^ (140 + 21 * k) = X at *
  generalize hY : (2 : Int) ^ 8540 = Y at *
  generalize (2 : Int) ^ 8549 = Y2 at *
  have j1 : (blk p q c a k).1 + (blk p q c a k).2 < (2 : Int) ^ 8800 := by
    generalize (2 : Int) ^ 8800 = Z at *
    omega
  have j2 : (blk p q c a k).2 < (2 : Int) ^ 8800 := by
    generalize (2 : Int) ^ 8800 = Z at *
    omega
  exact ⟨by omega, nat_lt (by omega) j1, by omega, nat_lt (by omega) j2⟩
theorem tp_lt {p q c a : Int} (h : Rk p q c) (h1 : 1 ≤ a) (h2 : a < nxt p q c a) (ha : a < (2 : Int) ^ 140) (hc : c < (2 : Int) ^ 140) {k : Nat} (hk : k < 400) :
    0 ≤ tpS p q c a k ∧ (tpS p q c a k).natAbs < 2 ^ 8800 := by
  obtain ⟨a1, a2, _, _⟩ := sum_lt h h1 h2 ha hc (k := k) (by omega)
  obtain ⟨b1, b2, _, _⟩ := sum_lt h h1 h2 ha hc (k := k + 1) (by omega)
  unfold tpS
  split
  · exact ⟨b1, b2⟩
  · exact ⟨a1, a2⟩
structure Jn (p q c : Int) (m : Nat) (b a : Int) : Prop where
  z : m = 0 → b = 0
  e : c = 0 → hh p q m * a ≤ (b + a) * p ^ m
  l : (b + a) * p ^ m ≤ hh p q m * a ∨ c = 0
theorem jn0 (p q c a : Int) : Jn p q c 0 0 a := ⟨fun _ => rfl, fun _ => by simp [hh], .inl (by simp [hh])⟩
theorem jn_step {p q c a b : Int} {m : Nat} (h : Rk p q c) (j : Jn p q c m b a) (ha : 0 < a) (hb : 0 ≤ b) :
    Jn p q c (m + 1) (b + a) (nxt p q c a) ∧ (1 ≤ c → ((b + a) + nxt p q c a) * p ^ (m + 1) < hh p q (m + 1) * nxt p q c a) := by
  have hq := h.q0
  have hp : 0 < p := by have := h.pq; omega
  have hH := hh_pos hp hq m
  have hP : 0 < p ^ m := Int.pow_pos hp
  have e1 : hh p q (m + 1) * nxt p q c a = p ^ (m + 1) * nxt p q c a + (q * nxt p q c a) * hh p q m := by
    rw [hh_alt, Int.add_mul, Int.mul_right_comm]
  have e2 : ((b + a) + nxt p q c a) * p ^ (m + 1) = p ^ (m + 1) * nxt p q c a + p * ((b + a) * p ^ m) := by
    rw [Int.add_mul, Int.add_comm, Int.mul_comm (nxt p q c a), Int.pow_succ, Int.mul_comm (p ^ m) p, Int.mul_left_comm (b + a) p]
  have n1 : q * (p * a / q) ≤ p * a := Int.mul_ediv_self_le (by omega)
  have n2 : p * a < q * (p * a / q) + q := Int.lt_mul_ediv_self_add hq
  have n3 : q * nxt p q c a = q * (p * a / q) + q * c := by unfold nxt; rw [Int.mul_add]
  have e3 : p * (hh p q m * a) = (p * a) * hh p q m := by rw [Int.mul_comm (hh p q m), Int.mul_assoc]
  have lt : 1 ≤ c → ((b + a) + nxt p q c a) * p ^ (m + 1) < hh p q (m + 1) * nxt p q c a := fun hc => by
    rw [e1, e2]
    have l := j.l.resolve_right (by omega)
    have l1 := Int.mul_le_mul_of_nonneg_left l (Int.le_of_lt hp)
    have hqc : q * 1 ≤ q * c := Int.mul_le_mul_of_nonneg_left hc (Int.le_of_lt hq)
    have l2 : (p * a) * hh p q m < (q * nxt p q c a) * hh p q m := Int.mul_lt_mul_of_pos_right (by omega) hH
    omega
  refine ⟨⟨fun z => by omega, fun hc => ?_, ?_⟩, lt⟩
  · rw [e1, e2]
    have l := j.e hc
    have l1 := Int.mul_le_mul_of_nonneg_left l (Int.le_of_lt hp)
    have l2 : (q * nxt p q c a) * hh p q m ≤ (p * a) * hh p q m := Int.mul_le_mul_of_nonneg_right (by rw [n3, hc]; omega) (Int.le_of_lt hH)
    omega
  · by_cases hc : c = 0
    · exact .inr hc
    · exact .inl (Int.le_of_lt (lt (by have := h.c0; omega)))
/-- two fractions in their lowest terms stand as the fractions stand -/
theorem low_lt {t a s b g k : Int} (hg : 0 < g) (hk : 0 < k) (h1 : g ∣ t) (h2 : g ∣ a) (h3 : k ∣ s) (h4 : k ∣ b) : (t / g * (b / k) < s / k * (a / g)) ↔ (t * b < s * a) := by
  obtain ⟨t', rfl⟩ := h1
  obtain ⟨a', rfl⟩ := h2
  obtain ⟨s', rfl⟩ := h3
  obtain ⟨b', rfl⟩ := h4
  rw [Int.mul_ediv_cancel_left _ (by omega), Int.mul_ediv_cancel_left _ (by omega), Int.mul_ediv_cancel_left _ (by omega), Int.mul_ediv_cancel_left _ (by omega)]
  have e1 : g * t' * (k * b') = (g * k) * (t' * b') := by rw [Int.mul_assoc, Int.mul_left_comm t' k, ← Int.mul_assoc g k]
  have e2 : k * s' * (g * a') = (g * k) * (s' * a') := by rw [Int.mul_assoc, Int.mul_left_comm s' g, ← Int.mul_assoc k g, Int.mul_comm k g]
  rw [e1, e2]
  have hgk : 0 < g * k := Int.mul_pos hg hk
  exact ⟨fun h => Int.mul_lt_mul_of_pos_left h hgk, fun h => Int.lt_of_mul_lt_mul_left h (Int.le_of_lt hgk)⟩
theorem div_lt {t g : Int} {k : Nat} (h0 : 0 ≤ t) (hg : 0 < g) (h : t.natAbs < 2 ^ k) : (t / g).natAbs < 2 ^ k := by
  have h1 := Int.ediv_le_self g h0
  have h2 := Int.ediv_nonneg h0 (Int.le_of_lt hg)
  generalize t / g = x at *
  omega
/-! ### shares against the sum of powers; the greatest share -/
def hz (p q : Int) : Nat → Int
  | 0 => 0
  | i + 1 => hh p q i
theorem hz_S (p q : Int) : ∀ i, hz p q (i + 1) = hz p q i * p + q ^ i
  | 0 => by simp [hz, hh]
  | i + 1 => rfl
theorem hh_sum (p q : Int) : ∀ S : Nat, ((List.range (S + 1)).map fun k => p ^ (S - k) * q ^ k).sum = hh p q S
  | 0 => by simp [hh]
  | S + 1 => by
    have h := hh_sum p q S
    rw [List.range_succ, List.map_append, List.sum_append_int, show hh p q (S + 1) = hh p q S * p + q ^ (S + 1) from rfl, ← h]
    have e : (List.range (S + 1)).map (fun k => p ^ (S + 1 - k) * q ^ k) = ((List.range (S + 1)).map fun k => p ^ (S - k) * q ^ k).map (· * p) := by
      rw [List.map_map]
      apply List.map_congr_left
      intro k hk
      have := List.mem_range.mp hk
      show p ^ (S + 1 - k) * q ^ k = p ^ (S - k) * q ^ k * p
      rw [show S + 1 - k = (S - k) + 1 by omega, Int.pow_succ, Int.mul_right_comm]
    have m : ∀ xs : List Int, (xs.map (· * p)).sum = xs.sum * p := by
      intro xs
      induction xs with
      | nil => simp
      | cons x xs ih => simp [ih, Int.add_mul]
    rw [e, m]
    simp
/-- fractions with bottoms above 0: less -/
def lessF (x y : Int × Int) : Bool := decide (x.1 * y.2 < y.1 * x.2)
theorem less_tr {x y z : Int × Int} (hx : 0 < x.2) (hy : 0 < y.2) (hz : 0 < z.2) (h1 : lessF x y = false) (h2 : lessF x z = true) : lessF y z = true := by
  simp only [lessF, decide_eq_false_iff_not, decide_eq_true_eq] at *
  obtain ⟨a, b⟩ := x
  obtain ⟨c, d⟩ := y
  obtain ⟨e, f⟩ := z
  simp only at *
  apply Int.lt_of_mul_lt_mul_right (a := b) _ (Int.le_of_lt hx)
  have m1 : c * b * f ≤ a * d * f := Int.mul_le_mul_of_nonneg_right (by omega) (Int.le_of_lt hz)
  have m2 : a * f * d < e * b * d := Int.mul_lt_mul_of_pos_right h2 hy
  have e1 : c * f * b = c * b * f := by ac_rfl
  have e2 : a * d * f = a * f * d := by ac_rfl
  have e3 : e * d * b = e * b * d := by ac_rfl
  rw [e1, e3]; omega
theorem less_irr (x : Int × Int) : lessF x x = false := by simp [lessF]
theorem less_as {x y : Int × Int} (h : lessF x y = true) : lessF y x = false := by
  simp only [lessF, decide_eq_false_iff_not, decide_eq_true_eq] at *; omega
/-- the first one with none greater -/
def Top (f : Nat → Int × Int) (n K : Nat) : Prop := K < n ∧ (∀ j, j < n → lessF (f K) (f j) = false) ∧ ∀ j, j < K → lessF (f j) (f K) = true
theorem top_one (f : Nat → Int × Int) : Top f 1 0 := ⟨by decide, fun j hj => by
  have : j = 0 := by omega
  subst this; exact less_irr _, fun j hj => by omega⟩
theorem top_step {f : Nat → Int × Int} (hf : ∀ k, 0 < (f k).2) {n K : Nat} (h : Top f n K) : Top f (n + 1) (if lessF (f K) (f n) = true then n else K) := by
  obtain ⟨h1, h2, h3⟩ := h
  by_cases hl : lessF (f K) (f n) = true
  · rw [if_pos hl]
    have lt : ∀ j, j < n → lessF (f j) (f n) = true := fun j hj => less_tr (hf K) (hf j) (hf n) (h2 j hj) hl
    refine ⟨by omega, fun j hj => ?_, lt⟩
    by_cases hjn : j = n
    · subst hjn; exact less_irr _
    · exact less_as (lt j (by omega))
  · rw [if_neg hl]
    refine ⟨by omega, fun j hj => ?_, h3⟩
    by_cases hjn : j = n
    · subst hjn; simpa using hl
    · exact h2 j (by omega)
/-- .. stands first among those with none greater -/
theorem top_first {f : Nat → Int × Int} {n K : Nat} (h : Top f n K) : ∃ r, (List.range n).filter (fun k => ((List.range n).filter fun j => lessF (f k) (f j)).isEmpty) = K :: r := by
  obtain ⟨h1, h2, h3⟩ := h
  have e : List.range n = List.range K ++ (K :: (List.range (n - K - 1)).map (· + (K + 1))) := by
    have := List.range_add (n := K) (m := n - K)
    rw [show K + (n - K) = n by omega] at this
    rw [this, show n - K = (n - K - 1) + 1 by omega, List.range_succ_eq_map, List.map_cons, List.map_map]
    congr 2
    apply List.map_congr_left
    intro j _
    show K + (j + 1) = j + (K + 1)
    omega
  have k1 : ((List.range n).filter fun j => lessF (f K) (f j)).isEmpty = true := by
    rw [List.isEmpty_iff, List.filter_eq_nil_iff]
    intro j hj
    rw [h2 j (List.mem_range.mp hj)]; decide
  have k2 : ∀ k, k < K → ((List.range n).filter fun j => lessF (f k) (f j)).isEmpty = false := fun k hk => by
    apply Bool.eq_false_iff.mpr
    intro z
    rw [List.isEmpty_iff, List.filter_eq_nil_iff] at z
    exact z K (List.mem_range.mpr h1) (h3 k hk)
  generalize hg : (fun k => ((List.range n).filter fun j => lessF (f k) (f j)).isEmpty) = g at *
  have g1 : g K = true := by rw [← hg]; exact k1
  have g2 : ∀ k, k < K → g k = false := fun k hk => by rw [← hg]; exact k2 k hk
  rw [e, List.filter_append, List.filter_cons, if_pos g1, List.filter_eq_nil_iff.mpr fun k hk => by rw [g2 k (List.mem_range.mp hk)]; decide]
  exact ⟨_, rfl⟩
/-- a share in lowest terms beside the sum of powers -/
theorem fr_pow {t a H P : Int} (ha : 0 < a) : (frT t a * P < H * frB t a) ↔ (t * P < H * a) := by
  obtain ⟨g0, g1, g2⟩ := fr_g (a := t) ha
  generalize frT t a = x at *
  generalize frB t a = y at *
  generalize (Int.gcd t a : Int) = g at *
  rw [← g1, ← g2]
  have e1 : x * g * P = x * P * g := by ac_rfl
  have e2 : H * (y * g) = H * y * g := by ac_rfl
  rw [e1, e2]
  exact ⟨fun h => Int.mul_lt_mul_of_pos_right h g0, fun h => Int.lt_of_mul_lt_mul_right h (Int.le_of_lt g0)⟩
theorem fr_bits {t a : Int} {k : Nat} (ha : 0 < a) (h1 : t.natAbs < 2 ^ k) (h2 : a.natAbs < 2 ^ k) : (frT t a).natAbs < 2 ^ k ∧ (frB t a).natAbs < 2 ^ k := by
  have := fr_le (a := t) ha
  have := fr_pos (a := t) ha
  generalize 2 ^ k = K at *
  omega
def shF (p q c a : Int) (k : Nat) : Int × Int := (frT (tpS p q c a k) (blk p q c a (k + 1)).2, frB (tpS p q c a k) (blk p q c a (k + 1)).2)
end GB
set_option Elab.async false
set_option linter.all false
set_option maxRecDepth 100000
set_option maxHeartbeats 2000000
namespace GB
open PySem L2
/-! ### blocks with heads, rounded up to a grain, in numbers -/
theorem range_split {n K : Nat} (h1 : K < n) : List.range n = List.range K ++ (K :: (List.range (n - K - 1)).map (· + (K + 1))) := by
  have := List.range_add (n := K) (m := n - K)
  rw [show K + (n - K) = n by omega] at this
  rw [this, show n - K = (n - K - 1) + 1 by omega, List.range_succ_eq_map, List.map_cons, List.map_map]
  congr 2
  apply List.map_congr_left
  intro j _
  show K + (j + 1) = j + (K + 1)
  omega
def upc (h g s : Int) : Int := -(-(s + h) / g) * g
theorem upc_b {h g s : Int} (hg : 1 ≤ g) : s + h ≤ upc h g s ∧ upc h g s ≤ s + h + g - 1 := by
  unfold upc
  have h1 := Int.mul_ediv_self_le (x := -(s + h)) (k := g) (by omega)
  have h2 := Int.lt_mul_ediv_self_add (x := -(s + h)) (k := g) (by omega)
  rw [Int.neg_mul, Int.mul_comm _ g]
  omega
theorem upc_one (s : Int) : upc 0 1 s = s := by unfold upc; simp
theorem upc_g {h g s : Int} (hg : 1 ≤ g) : upc h g (s + g) = upc h g s + g := by
  unfold upc
  have e : -(s + g + h) = -(s + h) + -1 * g := by omega
  rw [e, Int.add_mul_ediv_right _ _ (by omega), Int.neg_add, Int.add_mul]
  omega
theorem upc_mono {h g s t : Int} (hg : 1 ≤ g) (hs : s ≤ t) : upc h g s ≤ upc h g t := by
  unfold upc
  have := Int.ediv_le_ediv (a := -(t + h)) (b := -(s + h)) (c := g) (by omega) (by omega)
  exact Int.mul_le_mul_of_nonneg_right (by omega) (by omega)
/-- the least multiple by the quotient rounded down -/
theorem upc_law {h g s : Int} (hg : 1 ≤ g) : (if s + h ≤ g * ((s + h) / g) then g * ((s + h) / g) else g * ((s + h) / g) + g) = upc h g s := by
  unfold upc
  have h1 := Int.mul_ediv_self_le (x := s + h) (k := g) (by omega)
  have h2 := Int.lt_mul_ediv_self_add (x := s + h) (k := g) (by omega)
  have h3 := Int.mul_ediv_self_le (x := -(s + h)) (k := g) (by omega)
  have h4 := Int.lt_mul_ediv_self_add (x := -(s + h)) (k := g) (by omega)
  generalize (s + h) / g = d at *
  generalize -(s + h) / g = e at *
  rw [Int.neg_mul, Int.mul_comm e g]
  have h5 : g * (e + d) = g * e + g * d := Int.mul_add ..
  have hu : e + d = 0 ∨ e + d = -1 := by
    apply Classical.byContradiction
    intro z
    rcases Int.lt_or_lt_of_ne (show e + d ≠ 0 by omega) with y | y
    · have := Int.mul_le_mul_of_nonneg_left (show e + d ≤ -2 by omega) (show 0 ≤ g by omega)
      omega
    · have := Int.mul_le_mul_of_nonneg_left (show 1 ≤ e + d by omega) (show 0 ≤ g by omega)
      omega
  rcases hu with hu | hu
  · rw [hu, Int.mul_zero] at h5
    rw [if_pos (by omega)]; omega
  · rw [hu] at h5
    rw [if_neg (by omega)]; omega
def fb (p q c h g a : Int) : Nat → Int × Int
  | 0 => (0, upc h g a)
  | k + 1 => (if upc h g (sz p q c a (k + 1)) ≤ (fb p q c h g a k).1 then 0 else (fb p q c h g a k).1 + (fb p q c h g a k).2, upc h g (sz p q c a (k + 1)))
theorem fb_snd (p q c h g a : Int) : ∀ k, (fb p q c h g a k).2 = upc h g (sz p q c a k)
  | 0 => rfl
  | k + 1 => rfl
theorem fb_plain (p q c a : Int) : ∀ k, fb p q c 0 1 a k = blk p q c a k
  | 0 => by show (0, upc 0 1 a) = (0, a); rw [upc_one]
  | k + 1 => by
    have ih := fb_plain p q c a k
    have e : upc 0 1 (sz p q c a (k + 1)) = nxt p q c (blk p q c a k).2 := by rw [upc_one, blk_sz]; rfl
    show (if upc 0 1 (sz p q c a (k + 1)) ≤ (fb p q c 0 1 a k).1 then 0 else (fb p q c 0 1 a k).1 + (fb p q c 0 1 a k).2, upc 0 1 (sz p q c a (k + 1))) = _
    rw [e, ih, blk_S]
    split <;> rfl
def frs (p q c h g a : Int) (n : Nat) : List PV := (List.range (n + 1)).map fun k => pairV (fb p q c h g a k)
theorem frs_len (p q c h g a : Int) (n : Nat) : (frs p q c h g a n).length = n + 1 := by simp [frs]
theorem frs_succ (p q c h g a : Int) (n : Nat) : frs p q c h g a (n + 1) = frs p q c h g a n ++ [pairV (fb p q c h g a (n + 1))] := by
  unfold frs
  rw [List.range_succ, List.map_append]; rfl
theorem frs_get (p q c h g a : Int) {n k : Nat} (hk : k ≤ n) : (frs p q c h g a n)[k]? = some (pairV (fb p q c h g a k)) := by
  unfold frs
  rw [List.getElem?_map, List.getElem?_range (by omega)]; rfl
theorem frs_last (p q c h g a : Int) (n : Nat) : atI (frs p q c h g a n) (-1) = some (pairV (fb p q c h g a n)) := by
  cases n with
  | zero => rfl
  | succ n => rw [frs_succ]; exact atI_last _ _
theorem frs_noref (p q c h g a : Int) (n : Nat) : norefL (frs p q c h g a n) = true := norefL_map fun k => rfl
theorem frs_plain (p q c a : Int) (n : Nat) : frs p q c 0 1 a n = blks p q c a n := by
  unfold frs blks
  exact List.map_congr_left fun k _ => by rw [fb_plain]
/-- the growths that are BACKS, less 1 -/
def fbL (p q c h g a : Int) (n : Nat) : List Nat := (List.range n).filter fun k => decide ((fb p q c h g a (k + 1)).1 = 0)
theorem fbL_len (p q c h g a : Int) (n : Nat) : (fbL p q c h g a n).length ≤ n := range_filter_len
def fsum (p q c h g a : Int) : Nat → Int
  | 0 => 0
  | k + 1 => fsum p q c h g a k + upc h g (sz p q c a k)
def fsur (p q c h g a : Int) (k : Nat) : Int := fsum p q c h g a k - upc h g (sz p q c a (k + 1))
theorem fb_right {p q c h g a : Int} : ∀ {k : Nat}, (∀ j, j < k → fsur p q c h g a j < 0) → (fb p q c h g a k).1 = fsum p q c h g a k
  | 0, _ => rfl
  | k + 1, hr => by
    have ih := fb_right (k := k) fun j hj => hr j (by omega)
    have hk := hr k (by omega)
    unfold fsur at hk
    show (if upc h g (sz p q c a (k + 1)) ≤ (fb p q c h g a k).1 then 0 else (fb p q c h g a k).1 + (fb p q c h g a k).2) = _
    rw [if_neg (by omega), ih, fb_snd]; rfl
theorem fsum_pos {p q c h g a : Int} (r : Rk p q c) (h1 : 1 ≤ a) (h2 : a < nxt p q c a) (hh : 0 ≤ h) (hg : 1 ≤ g) : ∀ k, 0 ≤ fsum p q c h g a k ∧ 0 < fsum p q c h g a (k + 1)
  | 0 => by
    have := (upc_b (h := h) (s := a) hg).1
    refine ⟨Int.le_refl _, ?_⟩
    show 0 < 0 + upc h g a
    omega
  | k + 1 => by
    obtain ⟨i1, i2⟩ := fsum_pos r h1 h2 hh hg k
    have z := sz_ok r h1 h2 (k + 1)
    have := (upc_b (h := h) (s := sz p q c a (k + 1)) hg).1
    refine ⟨by omega, ?_⟩
    show 0 < fsum p q c h g a (k + 1) + upc h g (sz p q c a (k + 1))
    omega
theorem fbL_none {p q c h g a : Int} (r : Rk p q c) (h1 : 1 ≤ a) (h2 : a < nxt p q c a) (hh : 0 ≤ h) (hg : 1 ≤ g) {n : Nat} (hr : ∀ j, j < n → fsur p q c h g a j < 0) : fbL p q c h g a n = [] := by
  unfold fbL
  rw [List.filter_eq_nil_iff]
  intro k hk
  have hk := List.mem_range.mp hk
  rw [fb_right fun j hj => hr j (by omega)]
  have := (fsum_pos r h1 h2 hh hg k).2
  rw [decide_eq_false (by omega)]; decide
theorem fbL_some {p q c h g a : Int} (r : Rk p q c) (h1 : 1 ≤ a) (h2 : a < nxt p q c a) (hh : 0 ≤ h) (hg : 1 ≤ g) {n K : Nat} (hn : K < n) (hK : 0 ≤ fsur p q c h g a K) (hr : ∀ j, j < K → fsur p q c h g a j < 0) : ∃ t, fbL p q c h g a n = K :: t := by
  have e : List.range n = List.range K ++ (K :: (List.range (n - K - 1)).map (· + (K + 1))) := by
    have := List.range_add (n := K) (m := n - K)
    rw [show K + (n - K) = n by omega] at this
    rw [this, show n - K = (n - K - 1) + 1 by omega, List.range_succ_eq_map, List.map_cons, List.map_map]
    congr 2
    apply List.map_congr_left
    intro j _
    show K + (j + 1) = j + (K + 1)
    omega
  have h0 := fbL_none r h1 h2 hh hg hr
  unfold fbL at h0 ⊢
  rw [e, List.filter_append, h0, List.filter_cons, if_pos]
  · exact ⟨_, rfl⟩
  · apply decide_eq_true
    have hb := fb_right hr
    unfold fsur at hK
    show (if upc h g (sz p q c a (K + 1)) ≤ (fb p q c h g a K).1 then 0 else (fb p q c h g a K).1 + (fb p q c h g a K).2) = 0
    rw [if_pos (by omega)]
/-- the first ones of more -/
theorem fbL_take {p q c h g a : Int} {m n : Nat} (hm : m ≤ n) : fbL p q c h g a m = (fbL p q c h g a n).filter fun k => decide (k < m) := by
  unfold fbL
  rw [List.filter_filter]
  have e : List.range n = List.range m ++ (List.range (n - m)).map (m + ·) := by
    have := List.range_add (n := m) (m := n - m)
    rwa [show m + (n - m) = n by omega] at this
  rw [e, List.filter_append]
  have e2 : ((List.range (n - m)).map (m + ·)).filter (fun k => decide (k < m) && decide ((fb p q c h g a (k + 1)).1 = 0)) = [] := by
    rw [List.filter_eq_nil_iff]
    intro k hk
    obtain ⟨j, _, rfl⟩ := List.mem_map.mp hk
    rw [decide_eq_false (by omega)]; simp
  rw [e2, List.append_nil]
  apply List.filter_congr
  intro k hk
  rw [decide_eq_true (List.mem_range.mp hk)]; rfl
theorem fbL_sorted (p q c h g a : Int) (n : Nat) : (fbL p q c h g a n).Pairwise (· < ·) := List.Pairwise.sublist List.filter_sublist List.pairwise_lt_range
/-- the LAP to a bound, told from a longer row -/
def lapT (L : List Nat) (most : Nat) : PV := match L with
  | k :: _ => if k ≤ most then .int k else .non
  | [] => .non
theorem lapT_take {p q c h g a : Int} {m n : Nat} (hm : m + 1 ≤ n) : lapT (fbL p q c h g a (m + 1)) m = lapT (fbL p q c h g a n) m := by
  have hs := fbL_sorted p q c h g a n
  rw [fbL_take hm]
  cases e : fbL p q c h g a n with
  | nil => rfl
  | cons k r =>
    rw [e] at hs
    by_cases hk : k ≤ m
    · rw [List.filter_cons, if_pos (decide_eq_true (by omega))]; rfl
    · have : (k :: r).filter (fun k => decide (k < m + 1)) = [] := by
        rw [List.filter_eq_nil_iff]
        intro x hx
        rcases List.mem_cons.mp hx with rfl | hx
        · simpa using (by omega : m + 1 ≤ x)
        · have := List.rel_of_pairwise_cons hs hx
          simpa using (by omega : m + 1 ≤ x)
      rw [this]
      show PV.non = if k ≤ m then PV.int k else .non
      rw [if_neg hk]
/-! ### far out the LAP is the settled one -/
theorem fsum_b {p q c h g a : Int} {D : Int} (hh : 0 ≤ h) (hg : 1 ≤ g) (hD : h + g - 1 ≤ D) : ∀ k, sumS p q c a k ≤ fsum p q c h g a k ∧ fsum p q c h g a k ≤ sumS p q c a k + k * D
  | 0 => by simp [sumS, fsum]
  | k + 1 => by
    obtain ⟨i1, i2⟩ := fsum_b (p := p) (q := q) (c := c) (a := a) hh hg hD k
    obtain ⟨u1, u2⟩ := upc_b (h := h) (g := g) (s := sz p q c a k) hg
    have e : (((k + 1 : Nat)) : Int) * D = k * D + D := by rw [Int.natCast_succ, Int.add_mul, Int.one_mul]
    show sumS p q c a k + sz p q c a k ≤ fsum p q c h g a k + upc h g (sz p q c a k) ∧ fsum p q c h g a k + upc h g (sz p q c a k) ≤ sumS p q c a k + sz p q c a k + ((k + 1 : Nat) : Int) * D
    omega
theorem fsur_b {p q c h g a : Int} {D : Int} (hh : 0 ≤ h) (hg : 1 ≤ g) (hD : h + g - 1 ≤ D) (k : Nat) : sur p q c k a - D ≤ fsur p q c h g a k ∧ fsur p q c h g a k ≤ sur p q c k a + k * D := by
  obtain ⟨i1, i2⟩ := fsum_b (p := p) (q := q) (c := c) (a := a) hh hg hD k
  obtain ⟨u1, u2⟩ := upc_b (h := h) (g := g) (s := sz p q c a (k + 1)) hg
  unfold fsur
  rw [sur_sum]
  omega
/-- how far the surplus is from the gap times the START -/
theorem sur_err {p q c : Int} (r : Rk p q c) (hc : c ≤ 5) : ∀ (k : Nat) (a : Int), hgh p q k * a - 5 * ((k + 1) * (k + 1)) * p ^ (k + 1) ≤ q ^ (k + 1) * sur p q c k a ∧ q ^ (k + 1) * sur p q c k a ≤ hgh p q k * a + 5 * ((k + 1) * (k + 1)) * p ^ (k + 1)
  | 0, a => by
    have hq := r.q1
    have hpq := r.pq
    have hc0 := r.c0
    have h1 := Int.lt_mul_ediv_self_add (x := p * a) (k := q) r.q0
    have h2 := Int.mul_ediv_self_le (x := p * a) (k := q) (by omega)
    have h3 : q * c ≤ q * 5 := Int.mul_le_mul_of_nonneg_left hc (by omega)
    have h4 : 0 ≤ q * c := Int.mul_nonneg (by omega) hc0
    show -p * a - 5 * (((0 : Nat) + 1 : Int) * ((0 : Nat) + 1)) * p ^ 1 ≤ q ^ 1 * (-nxt p q c a) ∧ q ^ 1 * (-nxt p q c a) ≤ -p * a + 5 * (((0 : Nat) + 1 : Int) * ((0 : Nat) + 1)) * p ^ 1
    unfold nxt
    rw [Int.pow_succ, Int.pow_succ, Int.pow_zero, Int.pow_zero, Int.one_mul, Int.one_mul, Int.mul_neg, Int.neg_mul]
    have h5 : q * (p * a / q + c) = q * (p * a / q) + q * c := Int.mul_add ..
    simp only [Int.natCast_zero, Int.zero_add, Int.mul_one]
    omega
  | k + 1, a => by
    have hq := r.q1
    have hpq := r.pq
    have hc0 := r.c0
    obtain ⟨i1, i2⟩ := sur_err r hc k (nxt p q c a)
    have h1 := Int.lt_mul_ediv_self_add (x := p * a) (k := q) r.q0
    have h2 := Int.mul_ediv_self_le (x := p * a) (k := q) (by omega)
    have h3 : q * c ≤ q * 5 := Int.mul_le_mul_of_nonneg_left hc (by omega)
    have h4 : 0 ≤ q * c := Int.mul_nonneg (by omega) hc0
    have hd : q * nxt p q c a - p * a ≤ 5 * q ∧ -(5 * q) ≤ q * nxt p q c a - p * a := by
      unfold nxt
      rw [Int.mul_add]
      omega
    obtain ⟨b1, b2⟩ := hgh_b hq hpq k
    have hP : 0 ≤ p ^ (k + 1) := Int.pow_nonneg (by omega)
    have e1 : q ^ (k + 1 + 1) * sur p q c (k + 1) a = q ^ (k + 2) * a + q * (q ^ (k + 1) * sur p q c k (nxt p q c a)) := by
      show q ^ (k + 2) * (a + sur p q c k (nxt p q c a)) = _
      rw [Int.mul_add, Int.pow_succ q (k + 1), Int.mul_comm (q ^ (k + 1)) q, Int.mul_assoc q (q ^ (k + 1)) (sur p q c k (nxt p q c a))]
    have e2 : hgh p q (k + 1) * a = q ^ (k + 2) * a + p * a * hgh p q k := by
      show (q ^ (k + 2) + p * hgh p q k) * a = _
      rw [Int.add_mul]
      congr 1
      ac_rfl
    have e3 : p ^ (k + 1 + 1) = p * p ^ (k + 1) := by rw [Int.pow_succ, Int.mul_comm]
    rw [e1, e2, e3]
    generalize q ^ (k + 1) * sur p q c k (nxt p q c a) = X at *
    generalize hH : hgh p q k = H at *
    generalize p ^ (k + 1) = P at *
    generalize nxt p q c a = n at *
    generalize q ^ (k + 2) * a = Y at *
    -- q X - p a H = q (X - H n) + H (q n - p a)
    have f1 : q * X - p * a * H = q * (X - H * n) + H * (q * n - p * a) := by
      rw [Int.mul_sub, Int.mul_sub, show q * (H * n) = H * (q * n) by ac_rfl, show p * a * H = H * (p * a) by ac_rfl]; omega
    generalize hE : X - H * n = E at *
    generalize hDD : q * n - p * a = d at *
    have g1 : q * E ≤ q * (5 * ((k + 1) * (k + 1)) * P) := Int.mul_le_mul_of_nonneg_left (by omega) (by omega)
    have g2 : q * (-(5 * ((k + 1) * (k + 1)) * P)) ≤ q * E := Int.mul_le_mul_of_nonneg_left (by omega) (by omega)
    rw [Int.mul_neg] at g2
    -- |H d| ≤ (k+1) P * 5 q
    have hk1 : (k : Int) * P ≤ (k + 1) * P := by rw [Int.add_mul]; omega
    have hk2 : P ≤ (k + 1) * P := by
      have := Int.mul_nonneg (show 0 ≤ (k : Int) by omega) hP
      rw [Int.add_mul]; omega
    have hHb : H ≤ (k + 1) * P ∧ -((k + 1) * P) ≤ H := by omega
    have hMd : H * d ≤ (k + 1) * P * (5 * q) ∧ -((k + 1) * P * (5 * q)) ≤ H * d := by
      have hM : 0 ≤ (k + 1) * P := by omega
      generalize ((k : Int) + 1) * P = M at *
      rcases Int.le_total 0 d with z | z
      · have m1 := Int.mul_le_mul_of_nonneg_right hHb.1 z
        have m2 := Int.mul_le_mul_of_nonneg_right hHb.2 z
        have m3 := Int.mul_le_mul_of_nonneg_left hd.1 hM
        rw [Int.neg_mul] at m2
        omega
      · have m1 := Int.mul_le_mul_of_nonpos_right hHb.1 z
        have m2 := Int.mul_le_mul_of_nonpos_right hHb.2 z
        have m3 := Int.mul_le_mul_of_nonneg_left hd.2 hM
        rw [Int.neg_mul] at m2
        rw [Int.mul_neg] at m3
        omega
    -- all below 5 (k+2)^2 p P
    have n1 : q * (5 * ((k + 1) * (k + 1)) * P) + (k + 1) * P * (5 * q) ≤ 5 * ((((k + 1 : Nat) : Int) + 1) * (((k + 1 : Nat) : Int) + 1)) * (p * P) := by
      have e : q * (5 * ((k + 1) * (k + 1)) * P) + (k + 1) * P * (5 * q) = q * P * (5 * (((k : Int) + 1) * ((k : Int) + 1) + ((k : Int) + 1))) := by
        rw [show q * (5 * (((k : Int) + 1) * (k + 1)) * P) = q * P * (5 * (((k : Int) + 1) * (k + 1))) by ac_rfl, show ((k : Int) + 1) * P * (5 * q) = q * P * (5 * ((k : Int) + 1)) by ac_rfl, ← Int.mul_add, ← Int.mul_add]
      have hqP : q * P ≤ p * P := Int.mul_le_mul_of_nonneg_right hpq hP
      have hqP0 : 0 ≤ q * P := Int.mul_nonneg (by omega) hP
      have hs : 5 * (((k : Int) + 1) * ((k : Int) + 1) + ((k : Int) + 1)) ≤ 5 * ((((k + 1 : Nat) : Int) + 1) * (((k + 1 : Nat) : Int) + 1)) := by
        have : (((k + 1 : Nat) : Int) + 1) * (((k + 1 : Nat) : Int) + 1) = ((k : Int) + 1) * ((k : Int) + 1) + 2 * ((k : Int) + 1) + 1 := by
          rw [show (((k + 1 : Nat) : Int) + 1) = ((k : Int) + 1) + 1 by omega, Int.add_mul, Int.mul_add]; omega
        omega
      have hs0 : 0 ≤ 5 * ((((k + 1 : Nat) : Int) + 1) * (((k + 1 : Nat) : Int) + 1)) := by
        have := Int.mul_nonneg (show 0 ≤ (((k + 1 : Nat) : Int) + 1) by omega) (show 0 ≤ (((k + 1 : Nat) : Int) + 1) by omega)
        omega
      rw [e, Int.mul_comm (5 * _) (p * P)]
      exact Int.le_trans (Int.mul_le_mul_of_nonneg_left hs hqP0) (Int.mul_le_mul_of_nonneg_right hqP hs0)
    omega
def all20 (f : Int → Int → Bool) : Bool := (List.range 20).all fun p => (List.range (p + 1)).all fun q => f (p + 1) (q + 1)
theorem all20_ok {f : Int → Int → Bool} (h : all20 f = true) {p q : Int} (hq : 1 ≤ q) (hpq : q ≤ p) (hp : p ≤ 20) : f p q = true := by
  have h1 := List.all_eq_true.mp h (p - 1).toNat (List.mem_range.mpr (by omega))
  have h2 := List.all_eq_true.mp h1 (q - 1).toNat (List.mem_range.mpr (by omega))
  rwa [show (((p - 1).toNat : Int) + 1) = p by omega, show (((q - 1).toNat : Int) + 1) = q by omega] at h2
theorem pos20 : all20 (fun p q => decide (p = q) || !back p q || (decide (1 ≤ hgh p q (stN p q)) && decide (stN p q ≤ 10))) = true := by decide +kernel
theorem pw20 {p : Int} (h0 : 1 ≤ p) (hp : p ≤ 20) {m : Nat} (hm : m ≤ 11) : 1 ≤ p ^ m ∧ p ^ m ≤ 204800000000000 := by
  refine ⟨Int.pow_pos (by omega), ?_⟩
  have h1 := ipow_le (b := 20) (by omega) hp m
  have h2 : (20 : Int) ^ m ≤ 20 ^ 11 := by
    obtain ⟨d, hd⟩ := Nat.exists_eq_add_of_le hm
    rw [hd, Int.pow_add]
    have : (1 : Int) ≤ 20 ^ d := Int.pow_pos (by decide)
    have := Int.mul_le_mul_of_nonneg_left this (show (0 : Int) ≤ 20 ^ m from Int.pow_nonneg (by decide))
    omega
  have h3 : (20 : Int) ^ 11 = 204800000000000 := by decide
  omega
theorem far_some {p q c h g a : Int} (r : Rk p q c) (hp : p ≤ 20) (hne : p ≠ q) (hc : c ≤ 5) (hh : 0 ≤ h) (hh2 : h ≤ 9) (hg : 1 ≤ g) (hg2 : g ≤ 16) (ha : 100000000000000000000 ≤ a) (hb : p * p ≤ p * q + q * q) :
    0 ≤ fsur p q c h g a (stN p q) ∧ (∀ j, j < stN p q → fsur p q c h g a j < 0) ∧ stN p q ≤ 10 := by
  have hq := r.q1
  have hpq := r.pq
  obtain ⟨hS, _⟩ := steady_ok hq hpq (by omega) hb
  have ht := all20_ok pos20 hq hpq hp
  have hk : back p q = true := decide_eq_true hb
  simp only [hk, Bool.not_true, Bool.or_false, decide_eq_false hne, Bool.false_or, Bool.and_eq_true, decide_eq_true_eq] at ht
  obtain ⟨t1, t2⟩ := ht
  generalize stN p q = S at *
  have sq : ∀ k : Nat, k ≤ 10 → 5 * (((k : Int) + 1) * ((k : Int) + 1)) ≤ 605 ∧ 0 ≤ 5 * (((k : Int) + 1) * ((k : Int) + 1)) := fun k hk => by
    have h1 := Int.mul_le_mul_of_nonneg_left (show (k : Int) + 1 ≤ 11 by omega) (show 0 ≤ (k : Int) + 1 by omega)
    have h2 := Int.mul_nonneg (show 0 ≤ (k : Int) + 1 by omega) (show 0 ≤ (k : Int) + 1 by omega)
    omega
  have err : ∀ k : Nat, k ≤ 10 → 5 * (((k : Int) + 1) * ((k : Int) + 1)) * p ^ (k + 1) ≤ 605 * 204800000000000 := fun k hk => by
    obtain ⟨w1, w2⟩ := pw20 (p := p) (m := k + 1) (by omega) hp (by omega)
    obtain ⟨s1, s2⟩ := sq k hk
    have m1 := Int.mul_le_mul_of_nonneg_right s1 (show 0 ≤ p ^ (k + 1) by omega)
    have m2 := Int.mul_le_mul_of_nonneg_left w2 (show (0 : Int) ≤ 605 by decide)
    omega
  refine ⟨?_, fun j hj => ?_, t2⟩
  · obtain ⟨e1, _⟩ := sur_err r hc S a
    have e2 := err S t2
    obtain ⟨f1, _⟩ := fsur_b (p := p) (q := q) (c := c) (a := a) (D := 24) hh hg (by omega) S
    apply Classical.byContradiction
    intro z
    obtain ⟨w1, w2⟩ := pw20 (p := q) (m := S + 1) (by omega) (by omega) (by omega)
    have m1 := Int.mul_le_mul_of_nonneg_left (show sur p q c S a ≤ 24 by omega) (show 0 ≤ q ^ (S + 1) by omega)
    have m2 := Int.mul_le_mul_of_nonneg_right t1 (show 0 ≤ a by omega)
    omega
  · obtain ⟨_, e1⟩ := sur_err r hc j a
    have e2 := err j (by omega)
    obtain ⟨_, f1⟩ := fsur_b (p := p) (q := q) (c := c) (a := a) (D := 24) hh hg (by omega) j
    have hn := hgh_lt0 hq (by omega) hS j hj
    apply Classical.byContradiction
    intro z
    obtain ⟨w1, w2⟩ := pw20 (p := q) (m := j + 1) (by omega) (by omega) (by omega)
    have m1 := Int.mul_le_mul_of_nonneg_left (show -240 ≤ sur p q c j a by omega) (show 0 ≤ q ^ (j + 1) by omega)
    have m2 := Int.mul_le_mul_of_nonneg_right (show hgh p q j ≤ -1 by omega) (show 0 ≤ a by omega)
    omega
theorem far_none {p q h g a : Int} (r : Rk p q 0) (hp : p ≤ 20) (hh : 0 ≤ h) (hh2 : h ≤ 9) (hg : 1 ≤ g) (hg2 : g ≤ 16) (ha : 100000000000000000000 ≤ a) (hb : p * q + q * q < p * p) (k : Nat) (hk : k ≤ 60) : fsur p q 0 h g a k < 0 := by
  have hq := r.q1
  have hpq := r.pq
  obtain ⟨_, e1⟩ := sur_err r (by decide) k a
  obtain ⟨_, f1⟩ := fsur_b (p := p) (q := q) (c := 0) (a := a) (D := 24) hh hg (by omega) k
  have hn := hgh_neg hq hb hpq k
  have hcl := hgh_closed p q k
  have hP : 1 ≤ p ^ k := Int.pow_pos (by omega)
  have hQ : 0 ≤ q ^ (k + 1) := Int.pow_nonneg (by omega)
  have hQP : q ^ (k + 1) ≤ p * p ^ k := by
    have := ipow_le (by omega) hpq (k + 1)
    rwa [Int.pow_succ p, Int.mul_comm (p ^ k)] at this
  have hPk : p ^ (k + 1) = p * p ^ k := by rw [Int.pow_succ, Int.mul_comm]
  have hx : (p - q) * hgh p q k ≤ -(p ^ k) := by
    rw [hcl, hPk]
    have e : q * q * (p ^ k - q ^ k) - p * p ^ k * (p - q) = -((p * p - (p * q + q * q)) * p ^ k) - q * q * q ^ k := by
      rw [Int.mul_sub, Int.mul_sub, Int.sub_mul, Int.add_mul]
      rw [show p * p ^ k * p = p * p * p ^ k by ac_rfl, show p * p ^ k * q = p * q * p ^ k by ac_rfl]
      omega
    rw [e]
    have m1 := Int.mul_le_mul_of_nonneg_right (show 1 ≤ p * p - (p * q + q * q) by omega) (show 0 ≤ p ^ k by omega)
    have m2 : 0 ≤ q * q * q ^ k := Int.mul_nonneg (Int.mul_nonneg (by omega) (by omega)) (Int.pow_nonneg (by omega))
    omega
  have h20 : 20 * hgh p q k ≤ -(p ^ k) := by
    have := Int.mul_le_mul_of_nonpos_right (show p - q ≤ 20 by omega) (show hgh p q k ≤ 0 by omega)
    omega
  rw [hPk] at e1
  generalize hgh p q k = H at *
  generalize p ^ k = P at *
  generalize q ^ (k + 1) = Q at *
  apply Classical.byContradiction
  intro z
  have hpP : p * P ≤ 20 * P := Int.mul_le_mul_of_nonneg_right hp (by omega)
  have hpP0 : 0 ≤ p * P := Int.mul_nonneg (by omega) (by omega)
  have m1 := Int.mul_le_mul_of_nonneg_left (show -1440 ≤ sur p q 0 k a by omega) hQ
  have m2 := Int.mul_le_mul_of_nonneg_right h20 (show 0 ≤ a by omega)
  have m3 : 5 * (((k : Int) + 1) * ((k : Int) + 1)) * (p * P) ≤ 18605 * (p * P) := Int.mul_le_mul_of_nonneg_right (by
    have h1 := Int.mul_le_mul_of_nonneg_left (show (k : Int) + 1 ≤ 61 by omega) (show 0 ≤ (k : Int) + 1 by omega)
    omega) hpP0
  have m4 := Int.mul_le_mul_of_nonneg_left ha (show 0 ≤ P by omega)
  have e5 : -P * a = -(P * a) := Int.neg_mul ..
  have e6 : 20 * H * a = 20 * (H * a) := Int.mul_assoc ..
  omega
theorem far_eq {p c h g a : Int} (r : Rk p p c) (hc : c ≤ 5) (hh : 0 ≤ h) (hh2 : h ≤ 9) (hg : 1 ≤ g) (hg2 : g ≤ 16) (ha : 100000000000000000000 ≤ a) (hgc : g ≤ 2 * c) :
    0 ≤ fsur p p c h g a 2 ∧ ∀ j, j < 2 → fsur p p c h g a j < 0 := by
  have hp := r.q1
  have s1 : sz p p c a 1 = a + c := by
    show p * a / p + c = _
    rw [Int.mul_ediv_cancel_left _ (by omega)]
  have s2 : sz p p c a 2 = a + 2 * c := by
    show p * sz p p c a 1 / p + c = _
    rw [s1, Int.mul_ediv_cancel_left _ (by omega)]; omega
  have s3 : sz p p c a 3 = a + 3 * c := by
    show p * sz p p c a 2 / p + c = _
    rw [s2, Int.mul_ediv_cancel_left _ (by omega)]; omega
  have s0 : sz p p c a 0 = a := rfl
  obtain ⟨u0, v0⟩ := upc_b (h := h) (g := g) (s := a) hg
  obtain ⟨u1, v1⟩ := upc_b (h := h) (g := g) (s := a + c) hg
  obtain ⟨u3, v3⟩ := upc_b (h := h) (g := g) (s := a + 3 * c) hg
  have u2 := upc_mono (h := h) (s := a + g) (t := a + 2 * c) hg (by omega)
  rw [upc_g hg] at u2
  refine ⟨?_, fun j hj => ?_⟩
  · show 0 ≤ 0 + upc h g (sz p p c a 0) + upc h g (sz p p c a 1) - upc h g (sz p p c a 3)
    rw [s0, s1, s3]; omega
  · have : j = 0 ∨ j = 1 := by omega
    rcases this with rfl | rfl
    · show 0 - upc h g (sz p p c a 1) < 0
      rw [s1]; have := r.c0; omega
    · show 0 + upc h g (sz p p c a 0) - upc h g (sz p p c a 2) < 0
      rw [s0, s2]; omega
end GB
set_option Elab.async false
set_option linter.all false
set_option maxRecDepth 100000
set_option maxHeartbeats 2000000
namespace GB
open PySem L2
/-! ### laps to 39, exceptions below a bound, laps told by backs -/
theorem lo12_all : (List.range 12).all (fun p => (List.range (p + 1)).all fun q => !back (p + 1) (q + 1) || loGo (p + 1) (q + 1) 20 0 (-(p + 1)) (q + 1) (-(q + 1))) = true := by decide +kernel
theorem lo12 {p q : Int} (hq : 1 ≤ q) (hpq : q ≤ p) (hp : p ≤ 12) (hb : p * p ≤ p * q + q * q) : ∃ K, K < 20 ∧ 0 ≤ hgh p q K ∧ 0 ≤ lowS p q K := by
  have h := all12 lo12_all hq hpq hp
  rw [show (((p - 1).toNat : Int) + 1) = p by omega, show (((q - 1).toNat : Int) + 1) = q by omega] at h
  have hk : back p q = true := decide_eq_true hb
  rw [hk, Bool.not_true, Bool.false_or] at h
  have e : q = q ^ (0 + 1) := by rw [Int.pow_succ, Int.pow_zero, Int.one_mul]
  have h3 : loGo p q 20 0 (hgh p q 0) (q ^ (0 + 1)) (lowS p q 0) = true := by rw [← e]; exact h
  obtain ⟨K, h1, h4⟩ := loGo_ok 20 0 h3
  exact ⟨K, by omega, h4⟩
theorem back_soon12 {p q c a : Int} (h : Rk p q c) (hp : p ≤ 12) (ha : 1 ≤ a) (hb : p * p ≤ p * q + q * q) : ∃ k, k ≤ 20 ∧ bk p q c a k := by
  by_cases hc : c = 0
  · subst hc
    obtain ⟨hS, hK⟩ := steady_ok h.q1 h.pq (by omega) hb
    obtain ⟨_, hK7, _⟩ := steady12 h.q1 h.pq hp hb
    obtain ⟨k, h1, h2⟩ := lap_le h ha hS
    exact ⟨k, by omega, h2⟩
  · have hc1 : 1 ≤ c := by have := h.c0; omega
    obtain ⟨K, k1, k2, k3⟩ := lo12 h.q1 h.pq hp hb
    have hs := sur_low h hc1 K a
    have n1 := Int.mul_nonneg k2 (show 0 ≤ a by omega)
    have n2 := Int.mul_nonneg (show 0 ≤ c by omega) k3
    have hq : (0 : Int) < q ^ (K + 1) := Int.pow_pos h.q0
    have h0 : 0 ≤ sur p q c K a := by
      apply Classical.byContradiction
      intro y
      have := Int.mul_le_mul_of_nonneg_left (show sur p q c K a ≤ -1 by omega) (show 0 ≤ q ^ (K + 1) by omega)
      omega
    apply Classical.byContradiction
    intro z
    have hr : ∀ j, j < K → (blk p q c a j).1 < nxt p q c (blk p q c a j).2 := fun j hj => by
      apply Classical.byContradiction
      intro y
      exact z ⟨j, by omega, by unfold bk; omega⟩
    exact z ⟨K, by omega, (back_iff hr).mpr h0⟩
theorem wide12_all : (List.range 12).all (fun p => (List.range (p + 1)).all fun q => back (p + 1) (q + 1) || decide (6 * ((q : Int) + 1) ≤ 10 * ((p : Int) - q))) = true := by decide +kernel
theorem lap39 {p q c a : Int} {K : Nat} (h : Rk p q c) (hp : p ≤ 12) (h1 : 1 ≤ a) (h2 : a < nxt p q c a) (hn : lapN p q c a = some K) : K ≤ 39 := by
  have hi := lapN_is p q c a
  rw [hn] at hi
  obtain ⟨hb, hm⟩ := hi
  have hq := h.q1
  have hpq := h.pq
  by_cases hk : p * p ≤ p * q + q * q
  · obtain ⟨k, k1, k2⟩ := back_soon12 (c := c) h hp h1 hk
    apply Classical.byContradiction
    intro z
    exact hm k (by omega) k2
  · by_cases hc : c = 0
    · subst hc
      apply Classical.byContradiction
      intro z
      have ht := all12 wide12_all hq hpq hp
      rw [show (((p - 1).toNat : Int) + 1) = p by omega, show (((q - 1).toNat : Int) + 1) = q by omega] at ht
      have hk' : back p q = false := decide_eq_false hk
      rw [hk', Bool.false_or, decide_eq_true_eq] at ht
      have hz : 6 * q ≤ 10 * (p - q) := by omega
      have step : ∀ s : Int, 10 ≤ s → s + 6 ≤ nxt p q 0 s := fun s hs => by
        unfold nxt
        have : (s + 6) ≤ p * s / q := by
          rw [Int.le_ediv_iff_mul_le (by omega)]
          have m1 := Int.mul_le_mul_of_nonneg_right hz (show 0 ≤ s by omega)
          have m2 := Int.mul_le_mul_of_nonneg_right hs (show 0 ≤ q by omega)
          have e1 : 10 * (p - q) * s = 10 * (p * s) - 10 * (s * q) := by rw [Int.mul_assoc, Int.sub_mul, Int.mul_sub, Int.mul_comm q s]
          have e2 : 6 * q * s = 6 * (s * q) := by rw [Int.mul_assoc, Int.mul_comm q s]
          rw [Int.add_mul]
          omega
        omega
      have big : ∀ j : Nat, 10 + 6 * (j : Int) ≤ (blk p q 0 a (9 + j)).2 := fun j => by
        induction j with
        | zero => have := sz_le h h1 h2 9; show (10 : Int) + 6 * 0 ≤ (blk p q 0 a 9).2; omega
        | succ j ih =>
          rw [show 9 + (j + 1) = (9 + j) + 1 from rfl, blk_snd]
          have := step _ (show 10 ≤ (blk p q 0 a (9 + j)).2 by omega)
          omega
      have h39 : (10 : Int) + 6 * ((30 : Nat) : Int) ≤ (blk p q 0 a 39).2 := big 30
      have hsp : 1 ≤ p * p - p * q - q * q := by omega
      have m1 := Int.mul_le_mul_of_nonneg_left hsp (show 0 ≤ (blk p q 0 a 39).2 by omega)
      have m2 : p * (q - 1) ≤ 12 * 11 := by
        have x1 := Int.mul_le_mul_of_nonneg_right hp (show 0 ≤ q - 1 by omega)
        omega
      have := never0 h h1 h2 (i := 39) (by have := hm 39 (by omega); unfold bk at this; omega) (by omega) (by omega) (K - 39)
      rw [show 39 + (K - 39) = K by omega] at this
      unfold bk at hb; omega
    · exact absurd hb (never1 h (by have := h.c0; omega) h1 (by omega) K)
theorem sure_small4 {p q c : Int} (h : Rk p q c) (hp : p ≤ 12) (hc2 : c ≤ 4) : 0 ≤ sureF p q c ∧ sureF p q c ≤ 900 := by
  have hq := h.q1
  have hpq := h.pq
  have hc0 := h.c0
  by_cases hc : c ≤ 2
  · exact sure_small h hp hc
  · unfold sureF
    rw [if_pos (show 0 < c by omega)]
    unfold stO
    by_cases hb : p * p ≤ p * q + q * q
    · rw [if_pos hb]
      obtain ⟨g0, _, g2⟩ := steady12 hq hpq hp hb
      obtain ⟨hS, hK⟩ := steady_ok hq hpq (by omega) hb
      have u0 := upS_pos hq _ (hS.le hq hpq)
      show 0 ≤ lateF p q c (stN p q) ∧ lateF p q c (stN p q) ≤ 900
      unfold lateF
      have h1 : 0 ≤ q * upS p q (stN p q) := Int.mul_nonneg (by omega) (by omega)
      have h2 := Int.mul_le_mul_of_nonneg_right hc2 h1
      have h3 : -900 ≤ -(c * (q * upS p q (stN p q))) / hgh p q (stN p q) := (Int.le_ediv_iff_mul_le g0).mpr (by omega)
      have h4 := Int.mul_nonneg hc0 h1
      have h5 : -(c * (q * upS p q (stN p q))) / hgh p q (stN p q) ≤ 0 := Int.ediv_nonpos_of_nonpos_of_neg (by omega) g0
      omega
    · rw [if_neg hb]
      show (0 : Int) ≤ 1 ∧ (1 : Int) ≤ 900
      exact ⟨by decide, by decide⟩
/-- rows of exceptions to two bounds -/
theorem filter_two {P : Nat → Bool} {N1 N2 : Nat} (h : ∀ i, N1 ≤ i → P i = false) : ((List.range N1).filter P).filter (fun i => decide (i < N2)) = (List.range N2).filter P := by
  rw [List.filter_filter]
  have key : ∀ N, N1 ≤ N → (List.range N1).filter (fun i => decide (i < N2) && P i) = (List.range N).filter (fun i => decide (i < N2) && P i) := by
    intro N hN
    obtain ⟨d, rfl⟩ := Nat.exists_eq_add_of_le hN
    rw [List.range_add, List.filter_append, filter_nil' (l := (List.range d).map (N1 + ·)), List.append_nil]
    intro x hx
    obtain ⟨j, _, rfl⟩ := List.mem_map.mp hx
    rw [h (N1 + j) (by omega), Bool.and_false]
  have key2 : ∀ N, N2 ≤ N → (List.range N).filter (fun i => decide (i < N2) && P i) = (List.range N2).filter P := by
    intro N hN
    obtain ⟨d, rfl⟩ := Nat.exists_eq_add_of_le hN
    rw [List.range_add, List.filter_append, filter_nil' (l := (List.range d).map (N2 + ·)), List.append_nil]
    · apply List.filter_congr
      intro x hx
      rw [decide_eq_true (List.mem_range.mp hx), Bool.true_and]
    · intro x hx
      obtain ⟨j, _, rfl⟩ := List.mem_map.mp hx
      rw [decide_eq_false (by omega), Bool.false_and]
  rw [key (N1 + N2) (by omega), key2 (N1 + N2) (by omega)]
/-- the differences of ends -/
def stepsZ : Nat → List Nat → List Int
  | _, [] => []
  | i, x :: r => ((x : Int) - i - 1) :: stepsZ x r
theorem stepsZ_ends {N : Nat} : ∀ (L : List Nat) (i : Nat), stepsZ i ((endsL i L).filter fun k => decide (k ≤ N)) = (L.take ((endsL i L).filter fun k => decide (k ≤ N)).length).map fun k : Nat => (k : Int)
  | [], i => rfl
  | K :: L, i => by
    show stepsZ i (((i + K + 1) :: endsL (i + K + 1) L).filter fun k => decide (k ≤ N)) = ((K :: L).take (((i + K + 1) :: endsL (i + K + 1) L).filter fun k => decide (k ≤ N)).length).map _
    by_cases h : i + K + 1 ≤ N
    · rw [List.filter_cons, if_pos (decide_eq_true h)]
      show (((i + K + 1 : Nat) : Int) - i - 1) :: stepsZ (i + K + 1) _ = _
      rw [stepsZ_ends L (i + K + 1), List.length_cons, List.take_succ_cons, List.map_cons]
      congr 1
      omega
    · rw [filter_nil' (l := (i + K + 1) :: endsL (i + K + 1) L)]
      · rfl
      · intro x hx
        have : i + K + 1 ≤ x := by
          rcases List.mem_cons.mp hx with rfl | hx
          · exact Nat.le_refl _
          · exact Nat.le_of_lt (endsL_gt _ _ x hx)
        exact decide_eq_false (by omega)
theorem stepsZ_get : ∀ (B : List Nat) (i : Nat), ((List.range B.length).map fun k => (((i :: B).getD (k + 1) 0 : Nat) : Int) - (((i :: B).getD k 0 : Nat) : Int) - 1) = stepsZ i B
  | [], i => rfl
  | x :: B, i => by
    rw [List.length_cons, List.range_succ_eq_map, List.map_cons, List.map_map]
    show ((x : Int) - i - 1) :: _ = ((x : Int) - i - 1) :: stepsZ x B
    rw [← stepsZ_get B x]
    rfl
theorem lapsL_take {p q c : Int} : ∀ (m n : Nat) (a : Int), m ≤ n → lapsL p q c m a = (lapsL p q c n a).take m
  | 0, n, a, _ => by simp [lapsL]
  | m + 1, 0, a, h => by omega
  | m + 1, n + 1, a, h => by
    unfold lapsL
    cases lapN p q c a with
    | none => rfl
    | some K =>
      show K :: lapsL p q c m _ = (K :: lapsL p q c n _).take (m + 1)
      rw [List.take_succ_cons, ← lapsL_take m n _ (by omega)]
/-- small RULES grow slowly -/
theorem blk_small {p q c a : Int} (h : Rk p q c) (hp : p ≤ 12) (hc : c ≤ 4) (h1 : 1 ≤ a) (h2 : a < nxt p q c a) (ha : a ≤ 1000) : ∀ k : Nat, (blk p q c a k).2 ≤ 1000 * 16 ^ k
  | 0 => by show a ≤ _; simpa using ha
  | k + 1 => by
    have ih := blk_small h hp hc h1 h2 ha k
    obtain ⟨b1, b2, b3⟩ := blk_ok h h1 h2 k
    have hq := h.q1
    rw [blk_snd, Int.pow_succ]
    unfold nxt
    generalize (blk p q c a k).2 = s at *
    generalize (16 : Int) ^ k = X at *
    have d1 : p * s / q ≤ p * s := Int.ediv_le_self _ (Int.mul_nonneg (by have := h.pq; omega) (by omega))
    have d2 := Int.mul_le_mul_of_nonneg_right hp (show 0 ≤ s by omega)
    omega
end GB
set_option Elab.async false
set_option linter.all false
set_option maxRecDepth 100000
set_option maxHeartbeats 2000000
namespace GB
open PySem L2
/-! ### stretches of cells that stay taken, in numbers -/
abbrev St2 := List (Int × Int)
def Asc : Int → St2 → Prop
  | _, [] => True
  | h, x :: r => h ≤ x.1 ∧ 1 ≤ x.2 ∧ Asc (x.1 + x.2) r
def ascB : Int → St2 → Bool
  | _, [] => true
  | h, x :: r => decide (h ≤ x.1) && decide (1 ≤ x.2) && ascB (x.1 + x.2) r
theorem ascB_iff : ∀ {xs : St2} {h : Int}, ascB h xs = true ↔ Asc h xs
  | [], h => by simp [ascB, Asc]
  | x :: r, h => by
    unfold ascB Asc
    rw [Bool.and_eq_true, Bool.and_eq_true, decide_eq_true_eq, decide_eq_true_eq, ascB_iff, and_assoc]
def endF : Int → St2 → Int
  | h, [] => h
  | _, x :: r => endF (x.1 + x.2) r
def lowF : Int → St2 → Int → Int
  | h, [], _ => h
  | h, x :: r, s => if s ≤ x.1 - h then h else lowF (x.1 + x.2) r s
def holF : Int → St2 → St2
  | _, [] => []
  | h, x :: r => (if h < x.1 then [(h, x.1 - h)] else []) ++ holF (x.1 + x.2) r
def Free (l s : Int) (xs : St2) : Prop := ∀ x ∈ xs, l + s ≤ x.1 ∨ x.1 + x.2 ≤ l
theorem Asc.ge : ∀ {xs : St2} {h : Int}, Asc h xs → ∀ x ∈ xs, h ≤ x.1 ∧ 1 ≤ x.2
  | [], _, _, x, hx => absurd hx List.not_mem_nil
  | y :: r, h, ⟨h1, h2, h3⟩, x, hx => by
    rcases List.mem_cons.mp hx with rfl | hx
    · exact ⟨h1, h2⟩
    · have := Asc.ge h3 x hx
      exact ⟨by omega, this.2⟩
theorem Asc.endF_ge : ∀ {xs : St2} {h : Int}, Asc h xs → h ≤ endF h xs ∧ ∀ x ∈ xs, x.1 + x.2 ≤ endF h xs
  | [], h, _ => ⟨Int.le_refl _, fun x hx => absurd hx List.not_mem_nil⟩
  | y :: r, h, ⟨h1, h2, h3⟩ => by
    obtain ⟨i1, i2⟩ := Asc.endF_ge h3
    refine ⟨by show h ≤ endF (y.1 + y.2) r; omega, fun x hx => ?_⟩
    rcases List.mem_cons.mp hx with rfl | hx
    · exact i1
    · exact i2 x hx
theorem endF_mem : ∀ {xs : St2} {h : Int}, xs ≠ [] → ∃ x ∈ xs, endF h xs = x.1 + x.2
  | [], _, hn => absurd rfl hn
  | [y], h, _ => ⟨y, List.mem_singleton.mpr rfl, rfl⟩
  | y :: z :: r, h, _ => by
    obtain ⟨x, hx, e⟩ := endF_mem (xs := z :: r) (h := y.1 + y.2) (by simp)
    exact ⟨x, List.mem_cons_of_mem _ hx, e⟩
theorem low_spec {s : Int} (hs : 1 ≤ s) : ∀ {xs : St2} {h : Int}, Asc h xs → h ≤ lowF h xs s ∧ Free (lowF h xs s) s xs ∧ (∀ l, h ≤ l → Free l s xs → lowF h xs s ≤ l) ∧ (lowF h xs s = endF h xs ∨ ∃ x ∈ xs, lowF h xs s + s ≤ x.1)
  | [], h, _ => ⟨Int.le_refl _, fun x hx => absurd hx List.not_mem_nil, fun l h1 _ => h1, .inl rfl⟩
  | y :: r, h, ⟨h1, h2, h3⟩ => by
    obtain ⟨i1, i2, i3, i4⟩ := low_spec hs h3
    unfold lowF
    by_cases hf : s ≤ y.1 - h
    · rw [if_pos hf]
      refine ⟨Int.le_refl _, fun x hx => ?_, fun l hl _ => hl, .inr ⟨y, List.mem_cons_self, by omega⟩⟩
      rcases List.mem_cons.mp hx with rfl | hx
      · left; omega
      · have := (h3.ge x hx).1
        left; omega
    · rw [if_neg hf]
      refine ⟨by omega, fun x hx => ?_, fun l hl hfr => ?_, ?_⟩
      · rcases List.mem_cons.mp hx with rfl | hx
        · right; exact i1
        · exact i2 x hx
      · rcases hfr y List.mem_cons_self with z | z
        · omega
        · exact i3 l z fun x hx => hfr x (List.mem_cons_of_mem _ hx)
      · rcases i4 with z | ⟨x, hx, z⟩
        · exact .inl z
        · exact .inr ⟨x, List.mem_cons_of_mem _ hx, z⟩
theorem hole_of {l s : Int} (hs : 1 ≤ s) : ∀ {xs : St2} {h : Int}, Asc h xs → h ≤ l → Free l s xs → l < endF h xs → ∃ g ∈ holF h xs, g.1 ≤ l ∧ l + s ≤ g.1 + g.2
  | [], h, _, hl, _, he => by
    have : l < h := he
    omega
  | y :: r, h, ⟨h1, h2, h3⟩, hl, hf, he => by
    rcases hf y List.mem_cons_self with z | z
    · refine ⟨(h, y.1 - h), ?_, hl, by show l + s ≤ h + (y.1 - h); omega⟩
      unfold holF
      rw [if_pos (by omega)]
      exact List.mem_append_left _ (List.mem_singleton.mpr rfl)
    · obtain ⟨g, g1, g2⟩ := hole_of hs h3 z (fun x hx => hf x (List.mem_cons_of_mem _ hx)) he
      exact ⟨g, List.mem_append_right _ g1, g2⟩
theorem hole_in : ∀ {xs : St2} {h : Int}, Asc h xs → ∀ g ∈ holF h xs, h ≤ g.1 ∧ 1 ≤ g.2 ∧ g.1 + g.2 ≤ endF h xs ∧ Free g.1 g.2 xs
  | [], h, _, g, hg => absurd hg List.not_mem_nil
  | y :: r, h, ⟨h1, h2, h3⟩, g, hg => by
    have he := h3.endF_ge
    unfold holF at hg
    rcases List.mem_append.mp hg with z | z
    · split at z
      · rw [List.mem_singleton] at z
        subst z
        refine ⟨Int.le_refl _, by show 1 ≤ y.1 - h; omega, by show h + (y.1 - h) ≤ endF (y.1 + y.2) r; omega, fun x hx => ?_⟩
        rcases List.mem_cons.mp hx with rfl | hx
        · left; show h + (x.1 - h) ≤ x.1; omega
        · have := (h3.ge x hx).1
          left; show h + (y.1 - h) ≤ x.1; omega
      · exact absurd z List.not_mem_nil
    · obtain ⟨i1, i2, i3, i4⟩ := hole_in h3 g z
      refine ⟨by omega, i2, i3, fun x hx => ?_⟩
      rcases List.mem_cons.mp hx with rfl | hx
      · right; exact i1
      · exact i4 x hx
/-! ### sorted rows of pairs, as often as they stand there -/
def lexLe (x y : Int × Int) : Prop := x.1 < y.1 ∨ (x.1 = y.1 ∧ x.2 ≤ y.2)
instance (x y : Int × Int) : Decidable (lexLe x y) := by unfold lexLe; infer_instance
theorem lexLe_total (x y : Int × Int) : ¬ lexLe x y → lexLe y x := by unfold lexLe; omega
theorem lexLe_tr {x y z : Int × Int} (h1 : lexLe x y) (h2 : lexLe y z) : lexLe x z := by unfold lexLe at *; omega
theorem lexLe_anti {x y : Int × Int} (h1 : lexLe x y) (h2 : lexLe y x) : x = y := by
  unfold lexLe at *
  exact Prod.ext (by omega) (by omega)
def insL (x : Int × Int) : St2 → St2
  | [] => [x]
  | y :: r => if lexLe x y then x :: y :: r else y :: insL x r
def sortL : St2 → St2
  | [] => []
  | x :: r => insL x (sortL r)
theorem insL_perm (x : Int × Int) : ∀ r : St2, (insL x r).Perm (x :: r)
  | [] => List.Perm.refl _
  | y :: r => by
    unfold insL
    split
    · exact List.Perm.refl _
    · exact (List.Perm.cons y (insL_perm x r)).trans (List.Perm.swap x y r)
theorem sortL_perm : ∀ xs : St2, (sortL xs).Perm xs
  | [] => List.Perm.refl _
  | x :: r => (insL_perm x (sortL r)).trans (List.Perm.cons x (sortL_perm r))
theorem insL_asc {x : Int × Int} : ∀ {r : St2}, r.Pairwise lexLe → (insL x r).Pairwise lexLe
  | [], _ => by simp [insL]
  | y :: r, h => by
    obtain ⟨h1, h2⟩ := List.pairwise_cons.mp h
    unfold insL
    split
    · rename_i hl
      refine List.pairwise_cons.mpr ⟨fun k hk => ?_, h⟩
      rcases List.mem_cons.mp hk with e | e
      · rw [e]; exact hl
      · exact lexLe_tr hl (h1 k e)
    · rename_i hl
      refine List.pairwise_cons.mpr ⟨fun k hk => ?_, insL_asc h2⟩
      rcases List.mem_cons.mp ((insL_perm x r).mem_iff.mp hk) with e | e
      · rw [e]; exact lexLe_total _ _ hl
      · exact h1 k e
theorem sortL_asc : ∀ xs : St2, (sortL xs).Pairwise lexLe
  | [] => List.Pairwise.nil
  | x :: r => insL_asc (sortL_asc r)
/-- sorted rows with the same pairs are one -/
theorem sorted_uniq : ∀ {xs ys : St2}, xs.Pairwise lexLe → ys.Pairwise lexLe → xs.Perm ys → xs = ys
  | [], ys, _, _, hp => by rw [List.nil_perm.mp hp]
  | x :: xs, [], _, _, hp => absurd hp.length_eq (by simp)
  | x :: xs, y :: ys, hx, hy, hp => by
    obtain ⟨x1, x2⟩ := List.pairwise_cons.mp hx
    obtain ⟨y1, y2⟩ := List.pairwise_cons.mp hy
    have e : x = y := by
      rcases List.mem_cons.mp (hp.mem_iff.mp List.mem_cons_self) with z | z
      · exact z
      · rcases List.mem_cons.mp (hp.mem_iff.mpr List.mem_cons_self) with v | v
        · exact v.symm
        · exact lexLe_anti (x1 y v) (y1 x z)
    subst e
    rw [sorted_uniq x2 y2 hp.cons_inv]
theorem sortL_uniq {xs ys : St2} (h : ys.Pairwise lexLe) (hp : ys.Perm xs) : ys = sortL xs := sorted_uniq h (sortL_asc xs) (hp.trans (sortL_perm xs).symm)
theorem Asc.sorted : ∀ {xs : St2} {h : Int}, Asc h xs → xs.Pairwise lexLe
  | [], _, _ => List.Pairwise.nil
  | y :: r, h, ⟨h1, h2, h3⟩ => List.pairwise_cons.mpr ⟨fun x hx => by have := (h3.ge x hx).1; unfold lexLe; omega, h3.sorted⟩
theorem sortL_id {xs : St2} {h : Int} (ha : Asc h xs) : sortL xs = xs := (sortL_uniq ha.sorted (List.Perm.refl _)).symm
def Dis (x y : Int × Int) : Prop := x.1 + x.2 ≤ y.1 ∨ y.1 + y.2 ≤ x.1
theorem Asc.dis : ∀ {xs : St2} {h : Int}, Asc h xs → xs.Pairwise Dis
  | [], _, _ => List.Pairwise.nil
  | y :: r, h, ⟨h1, h2, h3⟩ => List.pairwise_cons.mpr ⟨fun x hx => by have := (h3.ge x hx).1; unfold Dis; omega, h3.dis⟩
theorem asc_of : ∀ {T : St2} {h : Int}, (∀ x ∈ T, h ≤ x.1 ∧ 1 ≤ x.2) → T.Pairwise Dis → T.Pairwise lexLe → Asc h T
  | [], _, _, _, _ => trivial
  | y :: r, h, h0, hd, hs => by
    obtain ⟨d1, d2⟩ := List.pairwise_cons.mp hd
    obtain ⟨s1, s2⟩ := List.pairwise_cons.mp hs
    have hy := h0 y List.mem_cons_self
    refine ⟨hy.1, hy.2, asc_of (fun x hx => ?_) d2 s2⟩
    have hx2 := h0 x (List.mem_cons_of_mem _ hx)
    have h1 := d1 x hx
    have h2 := s1 x hx
    unfold Dis at h1
    unfold lexLe at h2
    exact ⟨by omega, hx2.2⟩
/-- what is taken, with a block -/
def tkn (xs : St2) (b : Int × Int) : St2 := sortL (xs ++ [b])
theorem tkn_mem {xs : St2} {b x : Int × Int} : x ∈ tkn xs b ↔ x ∈ xs ∨ x = b := by
  unfold tkn
  rw [(sortL_perm _).mem_iff, List.mem_append, List.mem_singleton]
theorem tkn_asc {xs : St2} {b : Int × Int} (ha : Asc 0 xs) (h0 : 0 ≤ b.1) (h1 : 1 ≤ b.2) (hf : Free b.1 b.2 xs) : Asc 0 (tkn xs b) := by
  refine asc_of (fun x hx => ?_) ?_ (sortL_asc _)
  · rcases tkn_mem.mp hx with z | z
    · exact ha.ge x z
    · subst z; exact ⟨h0, h1⟩
  · unfold tkn
    rw [(sortL_perm _).pairwise_iff (fun {x y} h => by unfold Dis at *; omega), List.pairwise_append]
    refine ⟨ha.dis, List.pairwise_singleton _ _, fun x hx y hy => ?_⟩
    rw [List.mem_singleton] at hy
    subst hy
    have := hf x hx
    unfold Dis; omega
theorem tkn_free {xs : St2} {b : Int × Int} {l s : Int} : Free l s (tkn xs b) ↔ Free l s xs ∧ (l + s ≤ b.1 ∨ b.1 + b.2 ≤ l) :=
  ⟨fun h => ⟨fun x hx => h x (tkn_mem.mpr (.inl hx)), h b (tkn_mem.mpr (.inr rfl))⟩, fun ⟨h1, h2⟩ x hx => by
    rcases tkn_mem.mp hx with z | z
    · exact h1 x z
    · subst z; exact h2⟩
/-! ### rows among cells that stay -/
def rowP (xs : St2) (p q c a : Int) : Nat → Int
  | 0 => lowF 0 xs a
  | k + 1 => lowF 0 (tkn xs (rowP xs p q c a k, sz p q c a k)) (sz p q c a (k + 1))
section
variable {xs : St2} {p q c a : Int}
theorem sz_pos (h : Rk p q c) (h1 : 1 ≤ a) (h2 : a < nxt p q c a) (k : Nat) : 1 ≤ sz p q c a k := by
  have := (sz_ok h h1 h2 k).1
  omega
theorem row_ok (h : Rk p q c) (h1 : 1 ≤ a) (h2 : a < nxt p q c a) (ha : Asc 0 xs) : ∀ k, 0 ≤ rowP xs p q c a k ∧ Free (rowP xs p q c a k) (sz p q c a k) xs
  | 0 => by
    obtain ⟨i1, i2, _⟩ := low_spec (s := a) h1 ha
    exact ⟨i1, i2⟩
  | k + 1 => by
    obtain ⟨j1, j2⟩ := row_ok h h1 h2 ha k
    obtain ⟨i1, i2, _⟩ := low_spec (s := sz p q c a (k + 1)) (sz_pos h h1 h2 (k + 1)) (tkn_asc (b := (rowP xs p q c a k, sz p q c a k)) ha j1 (sz_pos h h1 h2 k) j2)
    exact ⟨i1, (tkn_free.mp i2).1⟩
theorem row_tkn (h : Rk p q c) (h1 : 1 ≤ a) (h2 : a < nxt p q c a) (ha : Asc 0 xs) (k : Nat) : Asc 0 (tkn xs (rowP xs p q c a k, sz p q c a k)) := by
  obtain ⟨j1, j2⟩ := row_ok h h1 h2 ha k
  exact tkn_asc (b := (rowP xs p q c a k, sz p q c a k)) ha j1 (sz_pos h h1 h2 k) j2
/-- a block ahead of the end lies in a hole -/
theorem row_hole (h : Rk p q c) (h1 : 1 ≤ a) (h2 : a < nxt p q c a) (ha : Asc 0 xs) {k : Nat} (hk : rowP xs p q c a k < endF 0 xs) : ∃ g ∈ holF 0 xs, g.1 ≤ rowP xs p q c a k ∧ rowP xs p q c a k + sz p q c a k ≤ g.1 + g.2 := by
  obtain ⟨j1, j2⟩ := row_ok h h1 h2 ha k
  exact hole_of (sz_pos h h1 h2 k) ha j1 j2 hk
/-- from some growth on the blocks lie behind the end, as a RUN does -/
theorem row_free (h : Rk p q c) (h1 : 1 ≤ a) (h2 : a < nxt p q c a) (ha : Asc 0 xs) {S : Nat} (hS : ∀ k, S ≤ k → endF 0 xs ≤ rowP xs p q c a k) (h0 : S = 0 ∨ ∃ K, S = K + 1 ∧ rowP xs p q c a K < endF 0 xs) :
    ∀ j, rowP xs p q c a (S + j) = endF 0 xs + (blk p q c (sz p q c a S) j).1
  | 0 => by
    show rowP xs p q c a S = endF 0 xs + 0
    rw [Int.add_zero]
    have hb := hS S (Nat.le_refl _)
    obtain ⟨e1, e2⟩ := ha.endF_ge
    rcases h0 with h0 | ⟨K, h0, hK⟩
    · subst h0
      obtain ⟨_, _, _, i4⟩ := low_spec (s := a) h1 ha
      rcases i4 with z | ⟨x, hx, z⟩
      · exact z
      · have := e2 x hx
        have := (ha.ge x hx).2
        have : endF 0 xs ≤ lowF 0 xs a := hb
        omega
    · subst h0
      have hT := row_tkn h h1 h2 ha K
      have s1 := sz_pos h h1 h2 (K + 1)
      have sK := sz_pos h h1 h2 K
      obtain ⟨g, hg, g1, g2⟩ := row_hole h h1 h2 ha hK
      obtain ⟨_, _, g3, _⟩ := hole_in ha g hg
      obtain ⟨_, _, _, i4⟩ := low_spec (s := sz p q c a (K + 1)) s1 hT
      have hb' : endF 0 xs ≤ lowF 0 (tkn xs (rowP xs p q c a K, sz p q c a K)) (sz p q c a (K + 1)) := hb
      show lowF 0 (tkn xs (rowP xs p q c a K, sz p q c a K)) (sz p q c a (K + 1)) = endF 0 xs
      rcases i4 with z | ⟨x, hx, z⟩
      · rw [z]
        have hne : tkn xs (rowP xs p q c a K, sz p q c a K) ≠ [] := fun e => by
          have : (rowP xs p q c a K, sz p q c a K) ∈ tkn xs (rowP xs p q c a K, sz p q c a K) := tkn_mem.mpr (.inr rfl)
          rw [e] at this
          exact List.not_mem_nil this
        obtain ⟨y, hy, ey⟩ := endF_mem (h := 0) hne
        rw [z] at hb'
        apply Int.le_antisymm _ hb'
        rw [ey]
        rcases tkn_mem.mp hy with v | v
        · exact e2 y v
        · subst v
          show rowP xs p q c a K + sz p q c a K ≤ endF 0 xs
          omega
      · rcases tkn_mem.mp hx with v | v
        · have := e2 x v
          have := (ha.ge x v).2
          omega
        · subst v
          have : lowF 0 (tkn xs (rowP xs p q c a K, sz p q c a K)) (sz p q c a (K + 1)) + sz p q c a (K + 1) ≤ rowP xs p q c a K := z
          omega
  | j + 1 => by
    have ih := row_free h h1 h2 ha hS h0 j
    obtain ⟨z1, z2⟩ := sz_ok h h1 h2 S
    obtain ⟨b1, b2, b3⟩ := blk_ok h (show 1 ≤ sz p q c a S by omega) z2 j
    have hT := row_tkn h h1 h2 ha (S + j)
    have s1 := sz_pos h h1 h2 (S + j + 1)
    have hb := hS (S + j + 1) (by omega)
    obtain ⟨e1, e2⟩ := ha.endF_ge
    obtain ⟨i1, i2, i3, _⟩ := low_spec (s := sz p q c a (S + j + 1)) s1 hT
    have hsz : (blk p q c (sz p q c a S) j).2 = sz p q c a (S + j) := by rw [blk_sz, sz_add]
    have hnx : nxt p q c (sz p q c a (S + j)) = sz p q c a (S + j + 1) := rfl
    have hf := (tkn_free.mp i2).2
    rw [show S + (j + 1) = S + j + 1 from rfl, blk_S, hsz, hnx]
    have hrow : rowP xs p q c a (S + j + 1) = lowF 0 (tkn xs (rowP xs p q c a (S + j), sz p q c a (S + j))) (sz p q c a (S + j + 1)) := rfl
    rw [← hrow] at i1 i2 i3 hf
    rw [ih] at hf i3
    simp only at hf
    have cand : ∀ l, endF 0 xs ≤ l → (l + sz p q c a (S + j + 1) ≤ endF 0 xs + (blk p q c (sz p q c a S) j).1 ∨ endF 0 xs + (blk p q c (sz p q c a S) j).1 + sz p q c a (S + j) ≤ l) → rowP xs p q c a (S + j + 1) ≤ l := fun l hl hd => by
      refine i3 l (by omega) (tkn_free.mpr ⟨fun x hx => ?_, hd⟩)
      have := e2 x hx
      right; omega
    by_cases hn : sz p q c a (S + j + 1) ≤ (blk p q c (sz p q c a S) j).1
    · rw [if_pos hn]
      have := cand (endF 0 xs) (Int.le_refl _) (.inl (by omega))
      show _ = endF 0 xs + 0
      omega
    · rw [if_neg hn]
      have sp := sz_pos h h1 h2 (S + j)
      have := cand (endF 0 xs + (blk p q c (sz p q c a S) j).1 + sz p q c a (S + j)) (by omega) (.inr (Int.le_refl _))
      show _ = endF 0 xs + ((blk p q c (sz p q c a S) j).1 + sz p q c a (S + j))
      omega
end
/-! ### laid together -/
def plainG (cur : Int × Int) : St2 → St2
  | [] => [cur]
  | x :: r => if x.1 ≤ cur.1 + cur.2 then plainG (cur.1, (if x.1 + x.2 > cur.1 + cur.2 then x.1 + x.2 else cur.1 + cur.2) - cur.1) r else cur :: plainG x r
def plainT : St2 → St2
  | [] => []
  | x :: r => plainG x r
def Sep : Int → St2 → Prop
  | _, [] => True
  | h, x :: r => h < x.1 ∧ 1 ≤ x.2 ∧ Sep (x.1 + x.2) r
def Cov (xs : St2) (z : Int) : Prop := ∃ x ∈ xs, x.1 ≤ z ∧ z < x.1 + x.2
theorem cov_cons {x : Int × Int} {r : St2} {z : Int} : Cov (x :: r) z ↔ (x.1 ≤ z ∧ z < x.1 + x.2) ∨ Cov r z := by
  unfold Cov
  constructor
  · rintro ⟨y, hy, h⟩
    rcases List.mem_cons.mp hy with rfl | hy
    · exact .inl h
    · exact .inr ⟨y, hy, h⟩
  · rintro (h | ⟨y, hy, h⟩)
    · exact ⟨x, List.mem_cons_self, h⟩
    · exact ⟨y, List.mem_cons_of_mem _ hy, h⟩
theorem plainG_spec : ∀ {r : St2} {cur : Int × Int} {h : Int}, h < cur.1 → 1 ≤ cur.2 → (∀ y ∈ r, cur.1 ≤ y.1 ∧ 1 ≤ y.2) → r.Pairwise (fun x y => x.1 ≤ y.1) → Sep h (plainG cur r) ∧ ∀ z, Cov (plainG cur r) z ↔ (cur.1 ≤ z ∧ z < cur.1 + cur.2) ∨ Cov r z
  | [], cur, h, h1, h2, _, _ => ⟨⟨h1, h2, trivial⟩, fun z => cov_cons⟩
  | x :: r, cur, h, h1, h2, h3, h4 => by
    obtain ⟨p1, p2⟩ := List.pairwise_cons.mp h4
    have hx := h3 x List.mem_cons_self
    unfold plainG
    by_cases hc : x.1 ≤ cur.1 + cur.2
    · rw [if_pos hc]
      obtain ⟨i1, i2⟩ := plainG_spec (r := r) (cur := (cur.1, (if x.1 + x.2 > cur.1 + cur.2 then x.1 + x.2 else cur.1 + cur.2) - cur.1)) h1 (by simp only; split <;> omega) (fun y hy => h3 y (List.mem_cons_of_mem _ hy)) p2
      refine ⟨i1, fun z => (i2 z).trans ?_⟩
      rw [cov_cons]
      simp only
      constructor
      · rintro (v | v)
        · by_cases hz : z < cur.1 + cur.2
          · exact .inl ⟨v.1, hz⟩
          · right; left
            split at v <;> omega
        · exact .inr (.inr v)
      · rintro (v | v | v)
        · left; split <;> omega
        · left; split <;> omega
        · exact .inr v
    · rw [if_neg hc]
      obtain ⟨i1, i2⟩ := plainG_spec (r := r) (cur := x) (h := cur.1 + cur.2) (by omega) hx.2 (fun y hy => ⟨p1 y hy, (h3 y (List.mem_cons_of_mem _ hy)).2⟩) p2
      refine ⟨⟨h1, h2, i1⟩, fun z => ?_⟩
      rw [cov_cons, cov_cons, i2 z]
theorem plainT_spec {T : St2} (h0 : ∀ y ∈ T, 0 ≤ y.1 ∧ 1 ≤ y.2) (hs : T.Pairwise fun x y => x.1 ≤ y.1) : Sep (-1) (plainT T) ∧ ∀ z, Cov (plainT T) z ↔ Cov T z := by
  cases T with
  | nil => exact ⟨trivial, fun z => Iff.rfl⟩
  | cons x r =>
    have hx := h0 x List.mem_cons_self
    obtain ⟨p1, p2⟩ := List.pairwise_cons.mp hs
    obtain ⟨i1, i2⟩ := plainG_spec (r := r) (cur := x) (h := -1) (by omega) hx.2 (fun y hy => ⟨p1 y hy, (h0 y (List.mem_cons_of_mem _ hy)).2⟩) p2
    exact ⟨i1, fun z => by rw [cov_cons]; exact i2 z⟩
theorem Sep.asc : ∀ {xs : St2} {h : Int}, Sep h xs → Asc (h + 1) xs
  | [], _, _ => trivial
  | x :: r, h, ⟨h1, h2, h3⟩ => ⟨by omega, h2, by
    have := h3.asc
    cases r with
    | nil => trivial
    | cons y r => exact ⟨by have := this.1; omega, this.2⟩⟩
theorem Sep.gt : ∀ {xs : St2} {h : Int}, Sep h xs → ∀ z, Cov xs z → h < z
  | xs, h, hs, z, ⟨x, hx, h1, h2⟩ => by
    have := (hs.asc.ge x hx).1
    omega
theorem sep_uniq : ∀ {xs ys : St2} {h : Int}, Sep h xs → Sep h ys → (∀ z, Cov xs z ↔ Cov ys z) → xs = ys
  | [], [], _, _, _, _ => rfl
  | [], y :: ys, _, _, ⟨h1, h2, _⟩, hc => by
    obtain ⟨x, hx, _⟩ := (hc y.1).mpr (cov_cons.mpr (.inl ⟨Int.le_refl _, by omega⟩))
    exact absurd hx List.not_mem_nil
  | x :: xs, [], _, ⟨h1, h2, _⟩, _, hc => by
    obtain ⟨y, hy, _⟩ := (hc x.1).mp (cov_cons.mpr (.inl ⟨Int.le_refl _, by omega⟩))
    exact absurd hy List.not_mem_nil
  | x :: xs, y :: ys, h, hx, hy, hc => by
    obtain ⟨x1, x2, x3⟩ := hx
    obtain ⟨y1, y2, y3⟩ := hy
    have gx := x3.gt
    have gy := y3.gt
    have c1 := (hc x.1).mp (cov_cons.mpr (.inl ⟨Int.le_refl _, by omega⟩))
    have c2 := (hc y.1).mpr (cov_cons.mpr (.inl ⟨Int.le_refl _, by omega⟩))
    have e1 : x.1 = y.1 := by
      have a1 : y.1 ≤ x.1 := by
        rcases cov_cons.mp c1 with v | v
        · exact v.1
        · have := gy _ v; omega
      have a2 : x.1 ≤ y.1 := by
        rcases cov_cons.mp c2 with v | v
        · exact v.1
        · have := gx _ v; omega
      omega
    have e2 : x.2 = y.2 := by
      apply Classical.byContradiction
      intro ne
      rcases Int.lt_or_lt_of_ne ne with v | v
      · have := (hc (x.1 + x.2)).mpr (cov_cons.mpr (.inl ⟨by omega, by omega⟩))
        rcases cov_cons.mp this with w | w
        · omega
        · have := gx _ w; omega
      · have := (hc (y.1 + y.2)).mp (cov_cons.mpr (.inl ⟨by omega, by omega⟩))
        rcases cov_cons.mp this with w | w
        · omega
        · have := gy _ w; omega
    have e : x = y := Prod.ext e1 e2
    subst e
    rw [sep_uniq x3 y3 fun z => ?_]
    constructor
    · intro v
      rcases cov_cons.mp ((hc z).mp (cov_cons.mpr (.inr v))) with w | w
      · have := gx _ v; omega
      · exact w
    · intro v
      rcases cov_cons.mp ((hc z).mpr (cov_cons.mpr (.inr v))) with w | w
      · have := gy _ v; omega
      · exact w
/-- the cells tell what is free -/
theorem free_cov {xs : St2} {l s : Int} (hs : 1 ≤ s) (h1 : ∀ x ∈ xs, 1 ≤ x.2) : Free l s xs ↔ ∀ z, l ≤ z → z < l + s → ¬ Cov xs z := by
  constructor
  · rintro hf z z1 z2 ⟨x, hx, v⟩
    rcases hf x hx with w | w <;> omega
  · intro hf x hx
    apply Classical.byContradiction
    intro ne
    have hx1 := h1 x hx
    by_cases hl : l ≤ x.1
    · exact hf x.1 hl (by omega) ⟨x, hx, by omega, by omega⟩
    · exact hf l (Int.le_refl _) (by omega) ⟨x, hx, by omega, by omega⟩
section
variable {xs ys : St2} {p q c a : Int}
theorem low_cov {s : Int} (hs : 1 ≤ s) (hx : Asc 0 xs) (hy : Asc 0 ys) (hc : ∀ z, Cov xs z ↔ Cov ys z) : lowF 0 xs s = lowF 0 ys s := by
  obtain ⟨a1, a2, a3, _⟩ := low_spec hs hx
  obtain ⟨b1, b2, b3, _⟩ := low_spec hs hy
  have k : ∀ l, Free l s xs ↔ Free l s ys := fun l => by
    rw [free_cov hs fun x h => (hx.ge x h).2, free_cov hs fun x h => (hy.ge x h).2]
    exact ⟨fun h z z1 z2 w => h z z1 z2 ((hc z).mpr w), fun h z z1 z2 w => h z z1 z2 ((hc z).mp w)⟩
  exact Int.le_antisymm (a3 _ b1 ((k _).mpr b2)) (b3 _ a1 ((k _).mp a2))
theorem tkn_cov {b : Int × Int} {z : Int} : Cov (tkn xs b) z ↔ Cov xs z ∨ (b.1 ≤ z ∧ z < b.1 + b.2) := by
  unfold Cov
  constructor
  · rintro ⟨x, hx, h⟩
    rcases tkn_mem.mp hx with v | v
    · exact .inl ⟨x, v, h⟩
    · subst v; exact .inr h
  · rintro (⟨x, hx, h⟩ | h)
    · exact ⟨x, tkn_mem.mpr (.inl hx), h⟩
    · exact ⟨b, tkn_mem.mpr (.inr rfl), h⟩
/-- the same cells: the same rows -/
theorem row_cov (h : Rk p q c) (h1 : 1 ≤ a) (h2 : a < nxt p q c a) (hx : Asc 0 xs) (hy : Asc 0 ys) (hc : ∀ z, Cov xs z ↔ Cov ys z) : ∀ k, rowP xs p q c a k = rowP ys p q c a k
  | 0 => low_cov h1 hx hy hc
  | k + 1 => by
    have ih := row_cov h h1 h2 hx hy hc k
    have ax := row_tkn h h1 h2 hx k
    have ay := row_tkn h h1 h2 hy k
    show lowF 0 (tkn xs (rowP xs p q c a k, sz p q c a k)) _ = lowF 0 (tkn ys (rowP ys p q c a k, sz p q c a k)) _
    refine low_cov (sz_pos h h1 h2 (k + 1)) ax ay fun z => ?_
    rw [tkn_cov, tkn_cov, hc z, ih]
theorem endF_cov {h : Int} : ∀ {xs : St2}, Asc h xs → (xs = [] ∧ endF h xs = h) ∨ (Cov xs (endF h xs - 1) ∧ ∀ z, Cov xs z → z < endF h xs) := fun {xs} ha => by
  cases xs with
  | nil => exact .inl ⟨rfl, rfl⟩
  | cons x r =>
    right
    obtain ⟨y, hy, e⟩ := endF_mem (xs := x :: r) (h := h) (by simp)
    have hy2 := (ha.ge y hy).2
    refine ⟨⟨y, hy, by omega, by omega⟩, ?_⟩
    rintro z ⟨w, hw, v⟩
    have := ha.endF_ge.2 w hw
    omega
theorem end_cov (hx : Asc 0 xs) (hy : Asc 0 ys) (hc : ∀ z, Cov xs z ↔ Cov ys z) : endF 0 xs = endF 0 ys := by
  rcases endF_cov hx with ⟨ex, e1⟩ | ⟨x1, x2⟩
  · rcases endF_cov hy with ⟨ey, e2⟩ | ⟨y1, y2⟩
    · rw [e1, e2]
    · have := (hc _).mpr y1
      rw [ex] at this
      obtain ⟨w, hw, _⟩ := this
      exact absurd hw List.not_mem_nil
  · rcases endF_cov hy with ⟨ey, e2⟩ | ⟨y1, y2⟩
    · have := (hc _).mp x1
      rw [ey] at this
      obtain ⟨w, hw, _⟩ := this
      exact absurd hw List.not_mem_nil
    · have a1 := y2 _ ((hc _).mp x1)
      have a2 := x2 _ ((hc _).mpr y1)
      omega
/-- laid together, an ascending row has the same holes -/
theorem hol_plain : ∀ {r : St2} {cur : Int × Int} {h : Int}, h ≤ cur.1 → 1 ≤ cur.2 → Asc (cur.1 + cur.2) r → holF h (plainG cur r) = holF h (cur :: r)
  | [], cur, h, _, _, _ => rfl
  | x :: r, cur, h, h1, h2, ⟨a1, a2, a3⟩ => by
    unfold plainG
    by_cases hc : x.1 ≤ cur.1 + cur.2
    · rw [if_pos hc, if_pos (show x.1 + x.2 > cur.1 + cur.2 by omega), hol_plain (cur := (cur.1, x.1 + x.2 - cur.1)) h1 (by show 1 ≤ x.1 + x.2 - cur.1; omega) (by show Asc (cur.1 + (x.1 + x.2 - cur.1)) r; rwa [show cur.1 + (x.1 + x.2 - cur.1) = x.1 + x.2 by omega])]
      show (if h < cur.1 then [(h, cur.1 - h)] else []) ++ holF (cur.1 + (x.1 + x.2 - cur.1)) r = (if h < cur.1 then [(h, cur.1 - h)] else []) ++ ((if cur.1 + cur.2 < x.1 then [(cur.1 + cur.2, x.1 - (cur.1 + cur.2))] else []) ++ holF (x.1 + x.2) r)
      rw [if_neg (show ¬ cur.1 + cur.2 < x.1 by omega), List.nil_append, show cur.1 + (x.1 + x.2 - cur.1) = x.1 + x.2 by omega]
    · rw [if_neg hc]
      show (if h < cur.1 then [(h, cur.1 - h)] else []) ++ holF (cur.1 + cur.2) (plainG x r) = (if h < cur.1 then [(h, cur.1 - h)] else []) ++ holF (cur.1 + cur.2) (x :: r)
      rw [hol_plain a1 a2 a3]
theorem hol_plainT (ha : Asc 0 xs) : holF 0 (plainT xs) = holF 0 xs := by
  cases xs with
  | nil => rfl
  | cons x r => exact hol_plain ha.1 ha.2.1 ha.2.2
theorem plainT_asc (ha : Asc 0 xs) : Sep (-1) (plainT xs) ∧ ∀ z, Cov (plainT xs) z ↔ Cov xs z := plainT_spec (fun y hy => ha.ge y hy) (ha.sorted.imp fun {x y} h => by unfold lexLe at h; omega)
theorem plainT_asc0 (ha : Asc 0 xs) : Asc 0 (plainT xs) := (plainT_asc ha).1.asc
/-- both, laid together, where the one has all cells of the other -/
theorem both_plain {ys : St2} (ha : Asc 0 xs) (hy : Asc 0 ys) (hc : ∀ z, Cov ys z → Cov xs z) : plainT (sortL (xs ++ ys)) = plainT xs := by
  have s1 := plainT_asc ha
  have hm : ∀ y, y ∈ sortL (xs ++ ys) ↔ y ∈ xs ∨ y ∈ ys := fun y => by rw [(sortL_perm _).mem_iff, List.mem_append]
  have s2 := plainT_spec (T := sortL (xs ++ ys)) (fun y h => by
    rcases (hm y).mp h with v | v
    · exact ha.ge y v
    · exact hy.ge y v) ((sortL_asc _).imp fun {x y} h => by unfold lexLe at h; omega)
  refine sep_uniq s2.1 s1.1 fun z => ?_
  rw [s2.2 z, s1.2 z]
  constructor
  · rintro ⟨x, hx, v⟩
    rcases (hm x).mp hx with w | w
    · exact ⟨x, w, v⟩
    · exact hc z ⟨x, w, v⟩
  · rintro ⟨x, hx, v⟩
    exact ⟨x, (hm x).mpr (.inl hx), v⟩
theorem plain_plain (ha : Asc 0 xs) : plainT (plainT xs) = plainT xs := by
  have s1 := plainT_asc ha
  have s2 := plainT_asc (plainT_asc0 ha)
  exact sep_uniq s2.1 s1.1 fun z => s2.2 z
end
end GB
set_option Elab.async false
set_option linter.all false
set_option maxRecDepth 100000
set_option maxHeartbeats 4000000
namespace GB
open PySem PySem.Spec PyProof.Rows L2
/-! ### sorted(..) of pairs of ints, tuples however they are kept -/
def rSortedPS (K : PySem.W.Frag) : List V → Hp → VK → Prop := fun vs H Q => ∃ (a : Addr) (ks : List (Addr × (Int × Int))), vs = [V.ref a] ∧ SqL K H a (ks.map fun p => V.ref p.1) ∧ (∀ p ∈ ks, SqT K H p.1 [V.int p.2.1, V.int p.2.2]) ∧
  ∀ (L : List (Addr × (Int × Int))) p, L.Perm ks → (L.map (·.2)).Pairwise lexLe → H p = none → Q (.ref p) (upd H p (.lst (L.map fun q => V.ref q.1)))
/-- the pair that a reference stands for -/
def keyP (ks : List (Addr × (Int × Int))) (u : Value) : Int × Int := match u with
  | .ref t => match ks.find? (fun p => p.1 == t) with
    | some p => p.2
    | none => (0, 0)
  | _ => (0, 0)
section
variable {X : Cx}
theorem cr_sortedPS : CallR X (.builtin "sorted") (rSortedPS X.K) := by
  intro pins s σ H vs us Q I r h
  obtain ⟨a, ks, rfl, hs, hx, q⟩ := h
  obtain ⟨its, rv, hl, hz⟩ := I.list hs
  rw [Vals.ref1 r]
  obtain ⟨e1, e2⟩ := refs_back rv fun x m => by
    obtain ⟨p, _, e⟩ := List.mem_map.mp m
    exact ⟨p.1, e.symm⟩
  have hits : its = ks.map fun p => Value.ref p.1 := by
    have : ∀ (ks : List (Addr × (Int × Int))) (us : List Value), Vals (ks.map fun p => V.ref p.1) us → us = ks.map fun p => Value.ref p.1 := by
      intro ks
      induction ks with
      | nil => intro us h; cases h; rfl
      | cons p ks ih =>
        intro us h
        cases h with
        | cons r t => cases r; rw [ih _ t]; rfl
    exact this ks its rv
  have hk : ∀ p ∈ ks, keyP ks (.ref p.1) = p.2 := fun p hp => by
    unfold keyP
    cases hf : ks.find? (fun q => q.1 == p.1) with
    | none =>
      have := List.find?_eq_none.mp hf p hp
      simp at this
    | some q =>
      have q1 := List.mem_of_find?_eq_some hf
      have q2 := List.find?_some hf
      have q3 : q.1 = p.1 := by simpa using q2
      have t1 := hx q q1
      rw [q3] at t1
      have := I.tuple_inj t1 (hx p hp)
      injection this with z1 z2
      injection z2 with z2 _
      injection z1 with z1
      injection z2 with z2
      have e : q.2 = p.2 := Prod.ext z1 z2
      simp only [hf]
      exact e
  refine SrtO.sorted_pairsO (k := keyP ks) hl.isList (by rw [← rv.length]; exact hz) (fun v hv => ?_) fun g d out h1 h2 kp hd hn => ?_
  · rw [hits] at hv
    obtain ⟨p, hp, rfl⟩ := List.mem_map.mp hv
    rw [hk p hp]
    obtain ⟨its2, r2, ⟨o, ho, hc, n, hd⟩, _⟩ := I.tuple (hx p hp)
    obtain ⟨u1, u2, rfl, ri, rj⟩ := vals2 r2
    obtain ⟨t1, rfl⟩ := ri
    obtain ⟨t2, rfl⟩ := rj
    exact ⟨p.1, o, t1, t2, n, rfl, ho, hc, hd⟩
  · obtain ⟨n, hn⟩ := hn
    have ho : ∀ u ∈ out, ∃ p ∈ ks, u = Value.ref p.1 := fun u hu => by
      have := h2.perm.mem_iff.mp hu
      rw [hits] at this
      obtain ⟨p, hp, e⟩ := List.mem_map.mp this
      exact ⟨p, hp, e.symm⟩
    let f : Value → Addr × (Int × Int) := fun u => ((match u with | .ref t => t | _ => 0), keyP ks u)
    have hL : (out.map f).Perm ks := by
      have p1 := h2.perm.map f
      have p2 : its.map f = ks := by
        rw [hits, List.map_map]
        refine (List.map_congr_left fun p hp => ?_).trans (List.map_id ks)
        show (p.1, keyP ks (.ref p.1)) = p
        rw [hk p hp]
      rwa [p2] at p1
    have hb : out.map backV = (out.map f).map fun q => V.ref q.1 := by
      rw [List.map_map]
      refine List.map_congr_left fun u hu => ?_
      obtain ⟨p, _, rfl⟩ := ho u hu
      rfl
    have hs : ((out.map f).map (·.2)).Pairwise lexLe := by
      rw [List.map_map]
      refine List.pairwise_map.mpr (List.Pairwise.imp ?_ h1)
      intro x y hxy
      have := SrtO.lexB_no.mp hxy
      show lexLe (keyP ks x) (keyP ks y)
      unfold lexLe
      omega
    have fr := I.hok.fresh hd
    refine ⟨.ref d, upd H d (.lst (out.map backV)), I.laid (t' := s.toks) kp hd ⟨?_, out, n, vals_back (fun u hu => by obtain ⟨p, _, e⟩ := ho u hu; exact ⟨_, e⟩), hn⟩, rfl, ?_⟩
    · rw [List.length_map, h2.perm.length_eq]
      rw [List.length_map] at hz
      rw [hits, List.length_map]; exact hz
    · rw [hb]
      exact q (out.map f) d hL hs fr
end
def allPr : List PV → Option St2
  | [] => some []
  | .tup [.int a, .int b] :: r => (allPr r).map fun ps => (a, b) :: ps
  | _ => none
/-- sorted of ints, of pairs, of one item -/
def fSortedX (xs : List PV) (μ : Mu) : R PV := match xs with
  | [x] => match (lstP x μ).bind allPr with
    | some ps => .ok (.lst ((sortL ps).map pairV)) μ
    | none => fSorted [x] μ
  | _ => .bad
theorem allPr_map : ∀ ps : St2, allPr (ps.map pairV) = some ps
  | [] => rfl
  | p :: ps => by
    rw [List.map_cons]
    show (allPr (ps.map pairV)).map _ = _
    rw [allPr_map ps]; rfl
theorem allPr_inv {xs : List PV} : ∀ {bs : St2}, allPr xs = some bs → xs = bs.map pairV := by
  induction xs with
  | nil => intro bs h; cases h; rfl
  | cons x r ih =>
    intro bs h
    unfold allPr at h
    split at h
    · rename_i e; cases e
    · rename_i a b r' e
      cases e
      cases q : allPr r with
      | none => rw [q] at h; cases h
      | some l => rw [q] at h; cases h; rw [ih q]; rfl
    · cases h
section
variable {K : PySem.W.Frag} {ι : Io} {H : Hp} {μ : Mu}
theorem pairs_rep : ∀ {ps : St2} {vs : List V}, RepL K ι H (ps.map pairV) vs → ∃ ks : List (Addr × (Int × Int)), vs = ks.map (fun p => V.ref p.1) ∧ ks.map (·.2) = ps ∧ ∀ p ∈ ks, SqT K H p.1 [V.int p.2.1, V.int p.2.2]
  | [], vs, h => by
    rw [show vs = [] from h]
    exact ⟨[], rfl, rfl, fun p hp => absurd hp List.not_mem_nil⟩
  | p :: ps, vs, ⟨v, r, ev, hx, hr⟩ => by
    subst ev
    obtain ⟨ks, h1, h2, h3⟩ := pairs_rep hr
    obtain ⟨t, us, rfl, ht, hu⟩ := hx
    obtain ⟨u1, u2, e1, r1, r2⟩ := two_rep hu
    subst e1
    refine ⟨(t, p) :: ks, by rw [h1]; rfl, by rw [List.map_cons, h2], fun q hq => ?_⟩
    rcases List.mem_cons.mp hq with y | y
    · subst y
      have e1 : u1 = .int p.1 := r1
      have e2 : u2 = .int p.2 := r2
      rw [e1, e2] at ht
      exact ht
    · exact h3 q y
theorem pairs_mk : ∀ {L : List (Addr × (Int × Int))}, (∀ p ∈ L, SqT K H p.1 [V.int p.2.1, V.int p.2.2]) → RepL K ι H ((L.map (·.2)).map pairV) (L.map fun q => V.ref q.1)
  | [], _ => RepL.nil_
  | p :: L, h => RepL.cons_ ⟨p.1, _, rfl, h p List.mem_cons_self, RepL.cons_ rfl (RepL.cons_ rfl RepL.nil_)⟩ (pairs_mk fun q hq => h q (List.mem_cons_of_mem _ hq))
theorem al_sortedX : ApL K fSortedX (fun xs H Q => rSortedG K xs H Q ∨ rSortedPS K xs H Q) := by
  intro W ι μ H as xs Q hr rl h
  unfold fSortedX at h
  split at h
  · rename_i x
    obtain ⟨v, rfl, rv⟩ := one_rep rl
    cases e : lstP x μ with
    | none =>
      rw [e] at h
      exact .inl (al_sorted W ι μ H [x] [v] Q hr (RepL.cons_ rv RepL.nil_) h)
    | some ys =>
      rw [e] at h
      simp only [Option.bind_some] at h
      cases ep : allPr ys with
      | none =>
        rw [ep] at h
        exact .inl (al_sorted W ι μ H [x] [v] Q hr (RepL.cons_ rv RepL.nil_) h)
      | some ps =>
        rw [ep] at h
        have hys := allPr_inv ep
        subst hys
        obtain ⟨l, vs, rfl, sq, rvs, _⟩ := lstP_sq hr rv e
        obtain ⟨ks, k1, k2, k3⟩ := pairs_rep rvs
        subst k1
        refine .inr ⟨l, ks, rfl, sq, k3, fun L p hL hs hn => ?_⟩
        have es : sortL ps = L.map (·.2) := by
          refine (sortL_uniq hs ?_).symm
          rw [← k2]
          exact hL.map _
        have g := grow_new (K := K) (ι := ι) (o := HO.lst (L.map fun q => V.ref q.1)) hn
        refine h.at_ g (hr.new hn) ?_
        rw [es]
        exact new_lst hr hn (pairs_mk fun q hq => k3 q (hL.mem_iff.mp hq))
  · exact h.elim
end
section
variable {X : Cx} {W : WS} {a : Expr} {es : List Expr} {dl : Dn (List PV)} {p pos : Pos}
theorem e_sortedX (hm : X.mg "sorted" = none) (ha : PA X (a :: es) (LA X.K W dl)) (hg : Gl X "sorted" := by rfl) (he : starEach (a :: es) X.env = (false, eval a X.env) :: starEach es X.env := by rfl) (hpl : (backTo pos (starEach es X.env)).any (·.1) = false := by rfl) : PE X (.Call (.Name "sorted" p) (a :: es) [] pos) (LE X.K W (dApp fSortedX dl)) :=
  e_callB (r := fun xs H Q => rSortedG X.K xs H Q ∨ rSortedPS X.K xs H Q) (cr_sortedG.or cr_sortedPS) al_sortedX hg hm (by decide +kernel) ha (by decide) (by decide) he hpl
end
theorem fSortedX_lst {ps : St2} {μ : Mu} : fSortedX [.lst (ps.map pairV)] μ = .ok (.lst ((sortL ps).map pairV)) μ := by
  unfold fSortedX
  show (match (some (ps.map pairV)).bind allPr with | some ps => _ | none => _) = _
  rw [Option.bind_some, allPr_map]
end GB
set_option Elab.async false
set_option linter.all false
set_option maxRecDepth 100000
set_option maxHeartbeats 2000000
namespace GB
open PySem PySem.Spec PyProof.Rows L2
/-! ### in and not in, a list or a tuple of data -/
section
variable {X : Cx}
/-- the items of a list or a tuple -/
def itemsD : PyData → Option (List PyData)
  | .list ds => some ds
  | .tuple ds => some ds
  | _ => none
def rInX (neg : Bool) (K : PySem.W.Frag) : R2 := fun x y H Q => ∃ d c ds, Dp K H x d ∧ Dp K H y c ∧ itemsD c = some ds ∧ SeqAt.shaped d = true ∧ SeqAt.shaped c = true ∧ Q (.bl (if neg then !(ds.any fun z => PyData.eqv z d) else ds.any fun z => PyData.eqv z d)) H
theorem op_inX (hu : X.A.units + 65 < cLine) : OpR X (compareOp .In) (rInX false X.K) := by
  intro pins s σ H x y v u Q I rx ry h
  obtain ⟨d, c, ds, hd, he, hc, sd, se, q⟩ := h
  obtain ⟨as, r1⟩ := Dp.reads I d x v hd rx
  obtain ⟨bs, r2⟩ := Dp.reads I c y u he ry
  unfold itemsD at hc
  split at hc
  · cases hc
    exact SeqAt.in_list_reads r2 r1 (SeqAt.canLay_of_shaped se) (SeqAt.canLay_of_shaped sd) (room_in_shaped sd hu) ⟨.bl _, H, I, rfl, q⟩
  · cases hc
    exact SeqAt.in_tuple_reads r2 r1 (SeqAt.canLay_of_shaped se) (SeqAt.canLay_of_shaped sd) (room_in_shaped sd hu) ⟨.bl _, H, I, rfl, q⟩
  · cases hc
theorem op_ninX (hu : X.A.units + 65 < cLine) : OpR X (compareOp .NotIn) (rInX true X.K) := by
  intro pins s σ H x y v u Q I rx ry h
  obtain ⟨d, c, ds, hd, he, hc, sd, se, q⟩ := h
  obtain ⟨as, r1⟩ := Dp.reads I d x v hd rx
  obtain ⟨bs, r2⟩ := Dp.reads I c y u he ry
  unfold itemsD at hc
  split at hc
  · cases hc
    exact SeqAt.notIn_list_reads r2 r1 (SeqAt.canLay_of_shaped se) (SeqAt.canLay_of_shaped sd) (room_in_shaped sd hu) ⟨.bl _, H, I, rfl, q⟩
  · cases hc
    exact SeqAt.notIn_tuple_reads r2 r1 (SeqAt.canLay_of_shaped se) (SeqAt.canLay_of_shaped sd) (room_in_shaped sd hu) ⟨.bl _, H, I, rfl, q⟩
  · cases hc
def anyX (x : PV) (y : PV) (μ : Mu) : Option Bool := match toD μ 1000 x, toD μ 1000 y with
  | some d, some c => if SeqAt.shaped d && SeqAt.shaped c then (itemsD c).map fun ds => ds.any fun z => PyData.eqv z d else none
  | _, _ => none
def fInX (x y : PV) (μ : Mu) : R PV := match anyX x y μ with
  | some k => .ok (.bl k) μ
  | none => .bad
def fNinX (x y : PV) (μ : Mu) : R PV := match anyX x y μ with
  | some k => .ok (.bl (!k)) μ
  | none => .bad
variable {K : PySem.W.Frag}
theorem anyX_ok {ι : Io} {μ : Mu} {H : Hp} {a b : PV} {x y : V} {k : Bool} (hr : HR K ι μ H) (ra : Rep K ι H a x) (rb : Rep K ι H b y) (e : anyX a b μ = some k) :
    ∃ d c ds, Dp K H x d ∧ Dp K H y c ∧ itemsD c = some ds ∧ SeqAt.shaped d = true ∧ SeqAt.shaped c = true ∧ k = ds.any fun z => PyData.eqv z d := by
  unfold anyX at e
  split at e
  · rename_i d c q1 q2
    split at e
    · rename_i hc
      rw [Bool.and_eq_true] at hc
      cases hi : itemsD c with
      | none => rw [hi] at e; cases e
      | some ds =>
        rw [hi] at e
        cases e
        exact ⟨d, c, ds, toD_dp hr _ _ _ _ q1 ra, toD_dp hr _ _ _ _ q2 rb, hi, hc.1, hc.2, rfl⟩
    · cases e
  · cases e
theorem ol_inX : OpL K fInX (rInX false K) := by
  intro W ι μ H a b x y Q hr ra rb h
  unfold fInX at h
  cases e : anyX a b μ with
  | none => rw [e] at h; exact h.elim
  | some k =>
    rw [e] at h
    obtain ⟨d, c, ds, h1, h2, hi, h3, h4, rfl⟩ := anyX_ok hr ra rb e
    exact ⟨d, c, ds, h1, h2, hi, h3, h4, h.ok hr rfl⟩
theorem ol_ninX : OpL K fNinX (rInX true K) := by
  intro W ι μ H a b x y Q hr ra rb h
  unfold fNinX at h
  cases e : anyX a b μ with
  | none => rw [e] at h; exact h.elim
  | some k =>
    rw [e] at h
    obtain ⟨d, c, ds, h1, h2, hi, h3, h4, rfl⟩ := anyX_ok hr ra rb e
    exact ⟨d, c, ds, h1, h2, hi, h3, h4, h.ok hr rfl⟩
section
variable {W : WS} {a b : Expr} {da db : Dn PV} {pos : Pos}
theorem e_inX (hu : X.A.units + 65 < cLine) (ha : PE X a (LE X.K W da)) (hb : PE X b (LE X.K W db)) (hm : behindInMarks .In b = false := by rfl) : PE X (.Compare a [.In] [b] pos) (LE X.K W (dOp fInX da db)) := e_cmp (op_inX hu) ol_inX ha hb hm
theorem e_ninX (hu : X.A.units + 65 < cLine) (ha : PE X a (LE X.K W da)) (hb : PE X b (LE X.K W db)) (hm : behindInMarks .NotIn b = false := by rfl) : PE X (.Compare a [.NotIn] [b] pos) (LE X.K W (dOp fNinX da db)) := e_cmp (op_ninX hu) ol_ninX ha hb hm
theorem t_inX (hu : X.A.units + 65 < cLine) (ha : PE X a (LE X.K W da)) (hb : PE X b (LE X.K W db)) (hm : behindInMarks .In b = false := by rfl) : PT X (.Compare a [.In] [b] pos) (LT X.K W (asB (dOp fInX da db))) := t_cmp (op_inX hu) ol_inX ha hb hm
theorem t_ninX (hu : X.A.units + 65 < cLine) (ha : PE X a (LE X.K W da)) (hb : PE X b (LE X.K W db)) (hm : behindInMarks .NotIn b = false := by rfl) : PT X (.Compare a [.NotIn] [b] pos) (LT X.K W (asB (dOp fNinX da db))) := t_cmp (op_ninX hu) ol_ninX ha hb hm
end
end
theorem dpL_any {x : PV} (hx : noB x = true) : ∀ zs : List PV, noBL zs = true → ((dpL zs).any fun z => PyData.eqv z (dp x)) = zs.any fun z => eqP z x := by
  intro zs
  induction zs with
  | nil => intro _; rfl
  | cons z zs ih =>
    intro h
    unfold noBL at h
    rw [Bool.and_eq_true] at h
    simp only [dpL, List.any_cons, eqv_noB h.1 hx, ih h.2]
theorem anyX_tup {x : PV} {ys : List PV} {μ : Mu} (hx : noB x = true) (hy : noBL ys = true) (cx : cmpOk x) (cy : cmpOk (.tup ys)) : anyX x (.tup ys) μ = some (ys.any fun z => eqP z x) := by
  have hl : noS (.tup ys) = true := noB_SL hy
  unfold anyX
  rw [toD_dp2 (noB_S hx) cx.1, toD_dp2 hl cy.1]
  have h2 := shaped_dp hl cy.2
  simp only [dp] at h2 ⊢
  simp only [shaped_dp (noB_S hx) cx.2, h2, Bool.and_self, if_true, itemsD, Option.map_some, dpL_any hx ys hy]
theorem anyX_lst {x : PV} {ys : List PV} {μ : Mu} (hx : noB x = true) (hy : noBL ys = true) (cx : cmpOk x) (cy : cmpOk (.lst ys)) : anyX x (.lst ys) μ = some (ys.any fun z => eqP z x) := by
  have hl : noS (.lst ys) = true := noB_SL hy
  unfold anyX
  rw [toD_dp2 (noB_S hx) cx.1, toD_dp2 hl cy.1]
  have h2 := shaped_dp hl cy.2
  simp only [dp] at h2 ⊢
  simp only [shaped_dp (noB_S hx) cx.2, h2, Bool.and_self, if_true, itemsD, Option.map_some, dpL_any hx ys hy]
end GB
set_option Elab.async false
set_option linter.all false
set_option maxRecDepth 100000
set_option maxHeartbeats 4000000
namespace GB
open PySem PySem.Spec PyProof.Rows L2 SrtO Srt
/-! ### sorted(t) of a tuple of pairs of ints -/
section
variable {prog : Program} {w : World} {A : Around} {E : Value → Shared → Prop} {s : Shared}
/-- the heap behind the collecting of a tuple's items -/
abbrev colH (h : Heap) (vs : List Value) : Heap := (h.push (seqObj "list" #[] 0)).update h.objs.size (Obj.mapSeq (· ++ vs.toArray))
theorem collectT {l : Addr} {vs : List Value} {Q : List Value → Shared → Prop} (hl : s.heap.IsTuple l vs.toArray) (hsz : vs.length ≤ sizeLine)
    (h : Q vs { s with heap := colH s.heap vs }) : wpAny (model prog w) A (collect (.ref l)) Q E s := by
  obtain ⟨o, hA, hB, m, hC⟩ := id hl
  have hD : (s.heap.push (seqObj "list" #[] 0)).get? l = some o := Heap.get?_push_of_some _ hA
  have hT : (Value.type "tuple" == Value.type "tuple") = true := by rfl
  unfold collect
  refine wpAny_bind (wpAny_runValue (codeAny_builtin
    entry_proto_collect' ?_))
  show wpAny _ _ (do again (.builtin "list.__iadd__"
      ⟨[← newList [], .ref l], []⟩)) _ _ s
  refine wpAny_bind (wpAny_newList (wpAny_pure ⟨Code.quiet_builtin _ (by decide +kernel),
    codeAny_builtin entry_list_iadd' ?_⟩))
  show wpAny _ _ (Builtin.List.listExtendWith (.ref s.heap.objs.size)
    (.ref l) (.ref s.heap.objs.size)) _ _ { s with heap := s.heap.push (seqObj "list" #[] 0) }
  unfold Builtin.List.listExtendWith
  refine wpAny_bind (wpAny_typeOf (T := "tuple") ⟨o, hD, hB⟩ ?_)
  rw [if_pos (by rw [hT]; simp)]
  refine wpAny_bind (listItems_at hD hC ?_)
  refine wpAny_bind (listItems_at (xs := #[]) (n := 0)
    (Heap.get?_push_size _ rfl) rfl ?_)
  rw [if_neg (by simp)]
  refine wpAny_bind (listUpdate_at (xs := #[]) (n := 0) (Heap.get?_push_size _ rfl) rfl
    ?_ (Nat.zero_le _) (by
      show (#[] ++ vs.toArray).size ≤ sizeLine + 1
      simp only [Array.size_append, List.size_toArray, List.length_nil]
      omega))
  refine wpAny_pure ?_
  show wpAny (model prog w) A (do
    let o ← load s.heap.objs.size
    match o.data with
    | .seq xs _ => pure xs.toList
    | _ => unsupported "internal:collect") Q E
      { s with heap := colH s.heap vs }
  refine wpAny_bind (wpAny_load (get?_update_seq
    (Heap.get?_push_size _ rfl) _) ?_)
  show wpAny _ _ (pure ((#[] : Array Value) ++ vs.toArray).toList) Q E _
  have e : ((#[] : Array Value) ++ vs.toArray).toList = vs := by simp
  rw [e]
  exact wpAny_pure h
theorem sorted_ordT {l : Addr} {vs : List Value} {ltv : Value → Value → Bool} {Q : Value → Shared → Prop} (O : Swo ltv) (hl : s.heap.IsTuple l vs.toArray) (hz : vs.length ≤ sizeLine)
    (hS : 2 ≤ vs.length → ∀ (g : Heap) (a : Addr), g.get? a = some (seqObj "list" vs.toArray 0) → (∀ b o, s.heap.get? b = some o → b ≠ a ∧ g.get? b = some o) → SortableO prog w A.in1.in1 { s with heap := g } a vs ltv)
    (h : ∀ out : List Value, Srtd ltv out → Stb ltv out vs → Q (.ref (s.heap.objs.size + 1)) { s with heap := sortedAll s.heap vs out.toArray }) : wpAny (model prog w) A (call (.builtin "sorted") [.ref l]) Q E s := by
  have sz : (colH s.heap vs).objs.size = s.heap.objs.size + 1 := by
    rw [Heap.size_update, size_push']
  have at1 : ((colH s.heap vs).push (seqObj "list" vs.toArray 0)).get? (s.heap.objs.size + 1) = some (seqObj "list" vs.toArray 0) := by
    rw [← sz]
    exact Heap.get?_push_size _ rfl
  have kp : ∀ b o, s.heap.get? b = some o → b ≠ s.heap.objs.size + 1 ∧ ((colH s.heap vs).push (seqObj "list" vs.toArray 0)).get? b = some o := fun b o q => by
    have lt : b < s.heap.objs.size := Heap.lt_size q
    have ne1 : b ≠ s.heap.objs.size := Nat.ne_of_lt lt
    have ne2 : b ≠ s.heap.objs.size + 1 := Nat.ne_of_lt (Nat.lt_succ_of_lt lt)
    refine ⟨ne2, Heap.get?_push_of_some _ ?_⟩
    rw [Heap.get?_update_ne _ _ _ _ ne1]
    exact Heap.get?_push_of_some _ q
  refine Calls.call_function_entry kind_sorted plain_sorted
    entry_sorted (args_sorted1 _) ?_
  unfold Builtin.«sorted»
  refine wpAny_bind (m := checkCount "sorted" 1 1 _) (wpAny_pure ?_)
  refine wpAny_bind (collectT hl hz ?_)
  refine wpAny_bind (wpAny_newList ?_ hz)
  show wpAny _ _ _ _ _ { s with heap := (colH s.heap vs).push (seqObj "list" vs.toArray 0) }
  rw [sz]
  refine wpAny_bind (wpAny_holding (wpAny_call_entry slot_list_sort ⟨_, at1, rfl⟩ entry_list_sort
    (list_sort_ord O at1 hz (fun k2 => hS k2 _ _ at1 kp) fun out hs hb => ⟨_, rfl, ?_⟩) (args_list_sort _)))
  exact wpAny_pure ⟨_, rfl, h out hs hb⟩
theorem sorted_pairsT {l : Addr} {vs : List Value} {k : Value → Int × Int} {Q : Value → Shared → Prop} (hl : s.heap.IsTuple l vs.toArray) (hz : vs.length ≤ sizeLine) (hp : ∀ v ∈ vs, IsPair s.heap v (k v).1 (k v).2)
    (h : ∀ (g : Heap) (d : Addr) (out : List Value), Srtd (fun v u => lexB (k v) (k u)) out → Stb (fun v u => lexB (k v) (k u)) out vs → (∀ b o, s.heap.get? b = some o → g.get? b = some o) → s.heap.objs.size ≤ d → (∃ n, g.get? d = some (seqObj "list" out.toArray n)) → Q (.ref d) { s with heap := g }) :
    wpAny (model prog w) A (call (.builtin "sorted") [.ref l]) Q E s := by
  refine sorted_ordT (swo_lex k) hl hz (fun h2 g a ha kk => ?_) fun out hs hb => ?_
  · have hp2 : ∀ v ∈ vs, IsPair g v (k v).1 (k v).2 := fun v hm => (hp v hm).keeps fun b o e _ => (kk b o e).2
    refine pairs_sortableO (s := { s with heap := g }) (by omega) hp2 fun o e => ?_
    have e2 : some o = some (seqObj "list" vs.toArray 0) := e.symm.trans ha
    cases e2
    intro c
    exact absurd (Value.type.inj c) (by decide)
  · exact h _ _ out hs hb (fun b o e => sortedAll_old e)
      (Nat.le_succ _) (sortedAll_at s.heap vs out.toArray)
end
/-! sorted(..) of a tuple of pairs -/
def rSortedPT (K : PySem.W.Frag) : List V → Hp → VK → Prop := fun vs H Q => ∃ (a : Addr) (ks : List (Addr × (Int × Int))), vs = [V.ref a] ∧ SqT K H a (ks.map fun p => V.ref p.1) ∧ (∀ p ∈ ks, SqT K H p.1 [V.int p.2.1, V.int p.2.2]) ∧
  ∀ (L : List (Addr × (Int × Int))) p, L.Perm ks → (L.map (·.2)).Pairwise lexLe → H p = none → Q (.ref p) (upd H p (.lst (L.map fun q => V.ref q.1)))
section
variable {X : Cx}
theorem cr_sortedPT : CallR X (.builtin "sorted") (rSortedPT X.K) := by
  intro pins s σ H vs us Q I r h
  obtain ⟨a, ks, rfl, hs, hx, q⟩ := h
  obtain ⟨its, rv, hl, hz⟩ := I.tuple hs
  rw [Vals.ref1 r]
  obtain ⟨e1, e2⟩ := refs_back rv fun x m => by
    obtain ⟨p, _, e⟩ := List.mem_map.mp m
    exact ⟨p.1, e.symm⟩
  have hits : its = ks.map fun p => Value.ref p.1 := by
    have : ∀ (ks : List (Addr × (Int × Int))) (us : List Value), Vals (ks.map fun p => V.ref p.1) us → us = ks.map fun p => Value.ref p.1 := by
      intro ks
      induction ks with
      | nil => intro us h; cases h; rfl
      | cons p ks ih =>
        intro us h
        cases h with
        | cons r t => cases r; rw [ih _ t]; rfl
    exact this ks its rv
  have hk : ∀ p ∈ ks, keyP ks (.ref p.1) = p.2 := fun p hp => by
    unfold keyP
    cases hf : ks.find? (fun q => q.1 == p.1) with
    | none =>
      have := List.find?_eq_none.mp hf p hp
      simp at this
    | some q =>
      have q1 := List.mem_of_find?_eq_some hf
      have q2 := List.find?_some hf
      have q3 : q.1 = p.1 := by simpa using q2
      have t1 := hx q q1
      rw [q3] at t1
      have := I.tuple_inj t1 (hx p hp)
      injection this with z1 z2
      injection z2 with z2 _
      injection z1 with z1
      injection z2 with z2
      have e : q.2 = p.2 := Prod.ext z1 z2
      simp only [hf]
      exact e
  refine sorted_pairsT (k := keyP ks) hl (by rw [← rv.length]; exact hz) (fun v hv => ?_) fun g d out h1 h2 kp hd hn => ?_
  · rw [hits] at hv
    obtain ⟨p, hp, rfl⟩ := List.mem_map.mp hv
    rw [hk p hp]
    obtain ⟨its2, r2, ⟨o, ho, hc, n, hd⟩, _⟩ := I.tuple (hx p hp)
    obtain ⟨u1, u2, rfl, ri, rj⟩ := vals2 r2
    obtain ⟨t1, rfl⟩ := ri
    obtain ⟨t2, rfl⟩ := rj
    exact ⟨p.1, o, t1, t2, n, rfl, ho, hc, hd⟩
  · obtain ⟨n, hn⟩ := hn
    have ho : ∀ u ∈ out, ∃ p ∈ ks, u = Value.ref p.1 := fun u hu => by
      have := h2.perm.mem_iff.mp hu
      rw [hits] at this
      obtain ⟨p, hp, e⟩ := List.mem_map.mp this
      exact ⟨p, hp, e.symm⟩
    let f : Value → Addr × (Int × Int) := fun u => ((match u with | .ref t => t | _ => 0), keyP ks u)
    have hL : (out.map f).Perm ks := by
      have p1 := h2.perm.map f
      have p2 : its.map f = ks := by
        rw [hits, List.map_map]
        refine (List.map_congr_left fun p hp => ?_).trans (List.map_id ks)
        show (p.1, keyP ks (.ref p.1)) = p
        rw [hk p hp]
      rwa [p2] at p1
    have hb : out.map backV = (out.map f).map fun q => V.ref q.1 := by
      rw [List.map_map]
      refine List.map_congr_left fun u hu => ?_
      obtain ⟨p, _, rfl⟩ := ho u hu
      rfl
    have hs : ((out.map f).map (·.2)).Pairwise lexLe := by
      rw [List.map_map]
      refine List.pairwise_map.mpr (List.Pairwise.imp ?_ h1)
      intro x y hxy
      have := SrtO.lexB_no.mp hxy
      show lexLe (keyP ks x) (keyP ks y)
      unfold lexLe
      omega
    have fr := I.hok.fresh hd
    refine ⟨.ref d, upd H d (.lst (out.map backV)), I.laid (t' := s.toks) kp hd ⟨?_, out, n, vals_back (fun u hu => by obtain ⟨p, _, e⟩ := ho u hu; exact ⟨_, e⟩), hn⟩, rfl, ?_⟩
    · rw [List.length_map, h2.perm.length_eq]
      rw [List.length_map] at hz
      rw [hits, List.length_map]; exact hz
    · rw [hb]
      exact q (out.map f) d hL hs fr
end
/-- sorted of a tuple of pairs too -/
def fSortedY (xs : List PV) (μ : Mu) : R PV := match xs with
  | [.tup ys] => match allPr ys with
    | some ps => .ok (.lst ((sortL ps).map pairV)) μ
    | none => .bad
  | _ => fSortedX xs μ
section
variable {K : PySem.W.Frag} {ι : Io} {H : Hp} {μ : Mu}
abbrev rSortedXY (K : PySem.W.Frag) : List V → Hp → VK → Prop := fun xs H Q => (rSortedG K xs H Q ∨ rSortedPS K xs H Q) ∨ rSortedPT K xs H Q
theorem al_sortedY : ApL K fSortedY (rSortedXY K) := by
  intro W ι μ H as xs Q hr rl h
  unfold fSortedY at h
  split at h
  · rename_i ys
    obtain ⟨v, rfl, rv⟩ := one_rep rl
    cases ep : allPr ys with
    | none => rw [ep] at h; exact h.elim
    | some ps =>
      rw [ep] at h
      have hys := allPr_inv ep
      subst hys
      obtain ⟨l, vs, rfl, sq, rvs⟩ := rv
      obtain ⟨ks, k1, k2, k3⟩ := pairs_rep rvs
      subst k1
      refine .inr ⟨l, ks, rfl, sq, k3, fun L p hL hs hn => ?_⟩
      have es : sortL ps = L.map (·.2) := by
        refine (sortL_uniq hs ?_).symm
        rw [← k2]
        exact hL.map _
      have g := grow_new (K := K) (ι := ι) (o := HO.lst (L.map fun q => V.ref q.1)) hn
      refine h.at_ g (hr.new hn) ?_
      rw [es]
      exact new_lst hr hn (pairs_mk fun q hq => k3 q (hL.mem_iff.mp hq))
  · exact .inl (al_sortedX W ι μ H as xs Q hr rl h)
end
section
variable {X : Cx} {W : WS} {a : Expr} {es : List Expr} {dl : Dn (List PV)} {p pos : Pos}
theorem e_sortedY (hm : X.mg "sorted" = none) (ha : PA X (a :: es) (LA X.K W dl)) (hg : Gl X "sorted" := by rfl) (he : starEach (a :: es) X.env = (false, eval a X.env) :: starEach es X.env := by rfl) (hpl : (backTo pos (starEach es X.env)).any (·.1) = false := by rfl) : PE X (.Call (.Name "sorted" p) (a :: es) [] pos) (LE X.K W (dApp fSortedY dl)) :=
  e_callB (r := rSortedXY X.K) ((cr_sortedG.or cr_sortedPS).or cr_sortedPT) al_sortedY hg hm (by decide +kernel) ha (by decide) (by decide) he hpl
end
@[simp] theorem fSortedY_lst {xs : List PV} {μ : Mu} : fSortedY [.lst xs] μ = fSortedX [.lst xs] μ := rfl
theorem fSortedY_tup {ps : St2} {μ : Mu} : fSortedY [.tup (ps.map pairV)] μ = .ok (.lst ((sortL ps).map pairV)) μ := by
  unfold fSortedY
  simp only [allPr_map]
end GB
set_option Elab.async false
set_option linter.all false
set_option maxRecDepth 100000
set_option maxHeartbeats 2000000
namespace GB
open PySem L2
/-! ### cells, stretches, holes -/
theorem Sep.mono : ∀ {xs : St2} {h h' : Int}, Sep h xs → h' ≤ h → Sep h' xs
  | [], _, _, _, _ => trivial
  | x :: r, h, h', ⟨a1, a2, a3⟩, hh => ⟨by omega, a2, a3⟩
/-- holes never touch -/
theorem hol_sep : ∀ {xs : St2} {h : Int}, Asc h xs → Sep (h - 1) (holF h xs)
  | [], h, _ => trivial
  | x :: r, h, ⟨a1, a2, a3⟩ => by
    have ih := hol_sep a3
    unfold holF
    by_cases hc : h < x.1
    · rw [if_pos hc]
      refine ⟨by show h - 1 < h; omega, by show 1 ≤ x.1 - h; omega, ?_⟩
      show Sep (h + (x.1 - h)) (holF (x.1 + x.2) r)
      exact ih.mono (by omega)
    · rw [if_neg hc, List.nil_append]
      exact ih.mono (by omega)
theorem hol_cov : ∀ {xs : St2} {h : Int}, Asc h xs → ∀ z, Cov (holF h xs) z ↔ h ≤ z ∧ z < endF h xs ∧ ¬ Cov xs z
  | [], h, _, z => by
    constructor
    · rintro ⟨x, hx, _⟩
      exact absurd hx List.not_mem_nil
    · rintro ⟨z1, z2, _⟩
      have : z < h := z2
      omega
  | x :: r, h, ⟨a1, a2, a3⟩, z => by
    have ih := hol_cov a3 z
    have he : endF h (x :: r) = endF (x.1 + x.2) r := rfl
    have hg := a3.endF_ge.1
    have hlow : z < x.1 + x.2 → ¬ Cov r z := by
      rintro hz ⟨y, hy, h1, h2⟩
      have := (a3.ge y hy).1
      omega
    rw [he, cov_cons]
    unfold holF
    by_cases hc : h < x.1
    · rw [if_pos hc]
      show Cov ((h, x.1 - h) :: holF (x.1 + x.2) r) z ↔ _
      rw [cov_cons, ih]
      simp only
      constructor
      · rintro (v | v)
        · refine ⟨v.1, by omega, ?_⟩
          rintro (w | w)
          · omega
          · exact hlow (by omega) w
        · refine ⟨by omega, v.2.1, ?_⟩
          rintro (w | w)
          · omega
          · exact v.2.2 w
      · rintro ⟨v1, v2, v3⟩
        by_cases hz : z < x.1
        · left; omega
        · right
          refine ⟨?_, v2, fun w => v3 (.inr w)⟩
          apply Classical.byContradiction
          intro hn
          exact v3 (.inl ⟨by omega, by omega⟩)
    · rw [if_neg hc, List.nil_append, ih]
      constructor
      · rintro ⟨v1, v2, v3⟩
        refine ⟨by omega, v2, ?_⟩
        rintro (w | w)
        · omega
        · exact v3 w
      · rintro ⟨v1, v2, v3⟩
        refine ⟨?_, v2, fun w => v3 (.inr w)⟩
        apply Classical.byContradiction
        intro hn
        exact v3 (.inl ⟨by omega, by omega⟩)
/-- numbers, going up, as few stretches as can be -/
def prG (cur : Int × Int) : List Int → St2
  | [] => [cur]
  | z :: r => if cur.1 + cur.2 = z then prG (cur.1, cur.2 + 1) r else cur :: prG (z, 1) r
def prF : List Int → St2
  | [] => []
  | z :: r => prG (z, 1) r
theorem prG_spec : ∀ {r : List Int} {cur : Int × Int} {h : Int}, h < cur.1 → 1 ≤ cur.2 → (∀ z ∈ r, cur.1 + cur.2 ≤ z) → r.Pairwise (· < ·) → Sep h (prG cur r) ∧ ∀ z, Cov (prG cur r) z ↔ (cur.1 ≤ z ∧ z < cur.1 + cur.2) ∨ z ∈ r
  | [], cur, h, h1, h2, _, _ => ⟨⟨h1, h2, trivial⟩, fun z => by
    show Cov [cur] z ↔ _
    rw [cov_cons]
    constructor
    · rintro (v | ⟨x, hx, _⟩)
      · exact .inl v
      · exact absurd hx List.not_mem_nil
    · rintro (v | v)
      · exact .inl v
      · exact absurd v List.not_mem_nil⟩
  | y :: r, cur, h, h1, h2, h3, h4 => by
    obtain ⟨p1, p2⟩ := List.pairwise_cons.mp h4
    have hy := h3 y List.mem_cons_self
    unfold prG
    by_cases hc : cur.1 + cur.2 = y
    · rw [if_pos hc]
      obtain ⟨i1, i2⟩ := prG_spec (r := r) (cur := (cur.1, cur.2 + 1)) h1 (by show 1 ≤ cur.2 + 1; omega) (fun z hz => by
        have := p1 z hz
        show cur.1 + (cur.2 + 1) ≤ z
        omega) p2
      refine ⟨i1, fun z => (i2 z).trans ?_⟩
      simp only [List.mem_cons]
      constructor
      · rintro (v | v)
        · by_cases hz : z < cur.1 + cur.2
          · exact .inl ⟨v.1, hz⟩
          · exact .inr (.inl (by omega))
        · exact .inr (.inr v)
      · rintro (v | v | v)
        · exact .inl ⟨v.1, by omega⟩
        · exact .inl ⟨by omega, by omega⟩
        · exact .inr v
    · rw [if_neg hc]
      obtain ⟨i1, i2⟩ := prG_spec (r := r) (cur := (y, 1)) (h := cur.1 + cur.2) (by show _ < y; omega) (by show (1 : Int) ≤ 1; omega) (fun z hz => by
        have := p1 z hz
        show y + 1 ≤ z
        omega) p2
      refine ⟨⟨h1, h2, i1⟩, fun z => ?_⟩
      rw [cov_cons, i2 z]
      simp only [List.mem_cons]
      constructor
      · rintro (v | v | v)
        · exact .inl v
        · exact .inr (.inl (by omega))
        · exact .inr (.inr v)
      · rintro (v | v | v)
        · exact .inl v
        · exact .inr (.inl ⟨by omega, by omega⟩)
        · exact .inr (.inr v)
theorem prF_spec {zs : List Int} (h0 : ∀ z ∈ zs, 0 ≤ z) (hs : zs.Pairwise (· < ·)) : Sep (-1) (prF zs) ∧ ∀ z, Cov (prF zs) z ↔ z ∈ zs := by
  cases zs with
  | nil => exact ⟨trivial, fun z => ⟨fun ⟨x, hx, _⟩ => absurd hx List.not_mem_nil, fun h => absurd h List.not_mem_nil⟩⟩
  | cons y r =>
    obtain ⟨p1, p2⟩ := List.pairwise_cons.mp hs
    have := h0 y List.mem_cons_self
    obtain ⟨i1, i2⟩ := prG_spec (r := r) (cur := (y, 1)) (h := -1) (by show -1 < y; omega) (by show (1 : Int) ≤ 1; omega) (fun z hz => by
      have := p1 z hz
      show y + 1 ≤ z
      omega) p2
    refine ⟨i1, fun z => (i2 z).trans ?_⟩
    simp only [List.mem_cons]
    constructor
    · rintro (v | v)
      · exact .inl (by omega)
      · exact .inr v
    · rintro (v | v)
      · exact .inl ⟨by omega, by omega⟩
      · exact .inr v
/-- the stretches of some cells -/
theorem prF_srt {zs : List Int} (h0 : ∀ z ∈ zs, 0 ≤ z) : Sep (-1) (prF (srtS zs)) ∧ ∀ z, Cov (prF (srtS zs)) z ↔ z ∈ zs := by
  obtain ⟨h1, h2⟩ := prF_spec (zs := srtS zs) (fun z hz => h0 z (srtS_mem.mp hz)) (srtS_lt zs)
  exact ⟨h1, fun z => (h2 z).trans srtS_mem⟩
theorem prF_eq {zs : List Int} {T : St2} (h0 : ∀ z ∈ zs, 0 ≤ z) (hs : Sep (-1) T) (hc : ∀ z, Cov T z ↔ z ∈ zs) : prF (srtS zs) = T := by
  obtain ⟨h1, h2⟩ := prF_srt h0
  exact sep_uniq h1 hs fun z => (h2 z).trans (hc z).symm
/-- all cells that are taken -/
def takC (xs : St2) : List Int := xs.flatMap fun x => (List.range x.2.toNat).map fun k : Nat => x.1 + k
theorem mem_takC {xs : St2} {z : Int} : z ∈ takC xs ↔ Cov xs z := by
  unfold takC Cov
  rw [List.mem_flatMap]
  constructor
  · rintro ⟨x, hx, hz⟩
    obtain ⟨k, hk, rfl⟩ := List.mem_map.mp hz
    have := List.mem_range.mp hk
    exact ⟨x, hx, by omega, by omega⟩
  · rintro ⟨x, hx, h1, h2⟩
    exact ⟨x, hx, List.mem_map.mpr ⟨(z - x.1).toNat, List.mem_range.mpr (by omega), by omega⟩⟩
theorem takC_nonneg {xs : St2} (ha : Asc 0 xs) : ∀ z ∈ takC xs, 0 ≤ z := fun z hz => by
  obtain ⟨x, hx, h1, _⟩ := mem_takC.mp hz
  have := (ha.ge x hx).1
  omega
theorem max_end {xs : St2} (ha : Asc 0 xs) : maxI 0 ((takC xs).map (· + 1)) = endF 0 xs := by
  obtain ⟨m1, m2, m3⟩ := maxI_spec ((takC xs).map (· + 1)) 0
  rcases endF_cov ha with ⟨e, h1⟩ | ⟨h1, h2⟩
  · rw [h1, e]; rfl
  · have a1 := m3 (endF 0 xs) (List.mem_map.mpr ⟨endF 0 xs - 1, mem_takC.mpr h1, by omega⟩)
    have a2 : maxI 0 ((takC xs).map (· + 1)) ≤ endF 0 xs := by
      rcases m1 with z | z
      · rw [z]; exact ha.endF_ge.1
      · obtain ⟨y, hy, e⟩ := List.mem_map.mp z
        have := h2 y (mem_takC.mp hy)
        omega
    omega
/-- the holes, cell by cell -/
theorem free_holes {xs : St2} (ha : Asc 0 xs) {zs : List Int} (hz : ∀ z, z ∈ zs ↔ 0 ≤ z ∧ z < endF 0 xs ∧ z ∉ takC xs) : prF (srtS zs) = holF 0 xs :=
  prF_eq (fun z h => ((hz z).mp h).1) (hol_sep ha) fun z => by
    rw [hol_cov ha z, hz z, mem_takC]
/-- the cells of stretches: as few stretches as can be -/
theorem tak_plain {xs : St2} (ha : Asc 0 xs) : prF (srtS (takC xs)) = plainT xs :=
  prF_eq (takC_nonneg ha) (plainT_asc ha).1 fun z => by rw [(plainT_asc ha).2 z, mem_takC]
theorem tak_both {xs ys : St2} (ha : Asc 0 xs) (hb : Asc 0 ys) : prF (srtS (takC xs ++ takC ys)) = plainT (sortL (xs ++ ys)) := by
  have hm : ∀ y, y ∈ sortL (xs ++ ys) ↔ y ∈ xs ∨ y ∈ ys := fun y => by rw [(sortL_perm _).mem_iff, List.mem_append]
  have s2 := plainT_spec (T := sortL (xs ++ ys)) (fun y h => by
    rcases (hm y).mp h with v | v
    · exact ha.ge y v
    · exact hb.ge y v) ((sortL_asc _).imp fun {x y} h => by unfold lexLe at h; omega)
  refine prF_eq (fun z hz => ?_) s2.1 fun z => ?_
  · rcases List.mem_append.mp hz with v | v
    · exact takC_nonneg ha z v
    · exact takC_nonneg hb z v
  · rw [s2.2 z, List.mem_append, mem_takC, mem_takC]
    constructor
    · rintro ⟨x, hx, v⟩
      rcases (hm x).mp hx with w | w
      · exact .inl ⟨x, w, v⟩
      · exact .inr ⟨x, w, v⟩
    · rintro (⟨x, hx, v⟩ | ⟨x, hx, v⟩)
      · exact ⟨x, (hm x).mpr (.inl hx), v⟩
      · exact ⟨x, (hm x).mpr (.inr hx), v⟩
theorem both_comm {xs ys : St2} : sortL (xs ++ ys) = sortL (ys ++ xs) :=
  sorted_uniq (sortL_asc _) (sortL_asc _) ((sortL_perm _).trans ((List.perm_append_comm).trans (sortL_perm _).symm))
/-- the lowest place, by moving on -/
def lowL : Int → St2 → Int → Int
  | h, [], _ => h
  | h, x :: r, s => if x.1 < h + s ∧ h < x.1 + x.2 then lowL (x.1 + x.2) r s else lowL h r s
theorem lowL_stay {h s : Int} : ∀ {xs : St2}, (∀ x ∈ xs, h + s ≤ x.1) → lowL h xs s = h
  | [], _ => rfl
  | x :: r, hx => by
    have := hx x List.mem_cons_self
    unfold lowL
    rw [if_neg (by omega)]
    exact lowL_stay fun y hy => hx y (List.mem_cons_of_mem _ hy)
theorem lowL_eq {s : Int} (hs : 1 ≤ s) : ∀ {xs : St2} {h : Int}, Asc h xs → lowL h xs s = lowF h xs s
  | [], _, _ => rfl
  | x :: r, h, ⟨a1, a2, a3⟩ => by
    show (if x.1 < h + s ∧ h < x.1 + x.2 then lowL (x.1 + x.2) r s else lowL h r s) = if s ≤ x.1 - h then h else lowF (x.1 + x.2) r s
    by_cases hc : s ≤ x.1 - h
    · rw [if_pos hc, if_neg (by omega)]
      exact lowL_stay fun y hy => by
        have := (a3.ge y hy).1
        omega
    · rw [if_neg hc, if_pos ⟨by omega, by omega⟩]
      exact lowL_eq hs a3
/-- at most one stretch holds a cell -/
theorem asc_one {xs : St2} {h z : Int} (ha : Asc h xs) : (xs.filter fun g => decide (g.1 ≤ z) && decide (z < g.1 + g.2)).length ≤ 1 := by
  induction xs generalizing h with
  | nil => simp
  | cons x r ih =>
    obtain ⟨a1, a2, a3⟩ := ha
    have i2 := ih a3
    by_cases hc : x.1 ≤ z ∧ z < x.1 + x.2
    · have : (r.filter fun g => decide (g.1 ≤ z) && decide (z < g.1 + g.2)) = [] := by
        rw [List.filter_eq_nil_iff]
        intro y hy
        have := (a3.ge y hy).1
        rw [Bool.and_eq_true, decide_eq_true_eq, decide_eq_true_eq]
        omega
      rw [List.filter_cons_of_pos (by rw [Bool.and_eq_true, decide_eq_true_eq, decide_eq_true_eq]; exact hc), this]
      simp
    · rw [List.filter_cons_of_neg (by rw [Bool.and_eq_true, decide_eq_true_eq, decide_eq_true_eq]; exact hc)]
      exact i2
end GB
set_option Elab.async false
set_option exponentiation.threshold 20000
set_option linter.all false
set_option maxRecDepth 100000
set_option maxHeartbeats 4000000
namespace GB
open PySem PySem.Spec PyProof.Rows L2
end GB
set_option Elab.async false
set_option exponentiation.threshold 20000
set_option linter.all false
set_option maxRecDepth 100000
set_option maxHeartbeats 2000000
namespace GB
open PySem L2
def ps1 (x : PV) : Option St2 := match x with
  | .tup xs => allPr xs
  | .lst xs => allPr xs
  | _ => none
theorem ps1_inv {x : PV} {bs : St2} (h : ps1 x = some bs) : x = .tup (bs.map pairV) ∨ x = .lst (bs.map pairV) := by
  unfold ps1 at h
  split at h
  · left; rw [allPr_inv h]
  · right; rw [allPr_inv h]
  · cases h
def holesS (as : List PV) : Option PV := match as with
  | [x] => (ps1 x).bind fun bs => if bs.length ≤ 100000 then some (.tup ((holF 0 bs).map pairV)) else none
  | _ => none
def plainS (as : List PV) : Option PV := match as with
  | [x] => (ps1 x).bind fun bs => if bs.length ≤ 100000 then some (.tup ((plainT bs).map pairV)) else none
  | _ => none
def rowsL (xs : St2) (p q c a : Int) (n : Nat) : List PV := (List.range (n + 1)).map fun k => pairV (rowP xs p q c a k, sz p q c a k)
def stO2 (bs : St2) : Bool := ascB 0 bs && decide (bs.length ≤ 1000)
def srunS (as : List PV) : Option PV := match as with
  | [.tup [.int p, .int q, .int c], x, .int a, .int n] => (ps1 x).bind fun bs => if okS p q c a n && stO2 bs then some (.tup (rowsL bs p q c a n.toNat)) else none
  | _ => none
def mostH (bs : St2) : Int := maxI 0 ((holF 0 bs).map (·.2))
/-- the growths whose blocks lie ahead, of those up to a number -/
def aheadL (bs : St2) (p q c a : Int) (n : Nat) : List Nat := (List.range n).filter fun k => decide (rowP bs p q c a k < endF 0 bs)
/-- how many sizes are at most so great -/
def stopK (p q c a most : Int) : Nat → Nat → Nat
  | 0, k => k
  | f + 1, k => if sz p q c a k ≤ most then stopK p q c a most f (k + 1) else k
def stK (bs : St2) (p q c a : Int) : Nat := stopK p q c a (mostH bs) (mostH bs).toNat 0
def row3 (bs : St2) (p q c a : Int) (k : Nat) : PV := .tup [.int k, .int (rowP bs p q c a k), .int (sz p q c a k)]
def raheadS (as : List PV) : Option PV := match as with
  | [.tup [.int p, .int q, .int c], x, .int a] => (ps1 x).bind fun bs => if okS p q c a 0 && stO2 bs && decide (mostH bs ≤ 100000) then some (.lst ((aheadL bs p q c a (stK bs p q c a)).map (row3 bs p q c a))) else none
  | _ => none
def usedL (bs : St2) (p q c a : Int) : St2 := (aheadL bs p q c a (stK bs p q c a)).flatMap fun k => (holF 0 bs).filter fun g => decide (g.1 ≤ rowP bs p q c a k) && decide (rowP bs p q c a k < g.1 + g.2)
def usedS (as : List PV) : Option PV := match as with
  | [.tup [.int p, .int q, .int c], x, .int a] => (ps1 x).bind fun bs => if okS p q c a 0 && stO2 bs && decide (mostH bs ≤ 100000) && decide ((usedL bs p q c a).length < 64) then some (.tup ((srtP (usedL bs p q c a)).map pairV)) else none
  | _ => none

end GB
set_option Elab.async false
set_option exponentiation.threshold 20000
set_option linter.all false
set_option maxRecDepth 100000
set_option maxHeartbeats 4000000
namespace GB
open PySem PySem.Spec PyProof.Rows L2
end GB
set_option Elab.async false
set_option exponentiation.threshold 20000
set_option linter.all false
set_option maxRecDepth 100000
set_option maxHeartbeats 2000000
namespace GB
open PySem L2
def pairsS (as : List PV) : Option PV := match as with
  | [.lst xs] => (allI xs).bind fun zs => if zs.length ≤ 900 then some (.tup ((prF (srtS zs)).map pairV)) else none
  | _ => none
def amongS (as : List PV) : Option PV := match as with
  | [.tup [.int p, .int q, .int c], .tup xs, .int a, .int n] => (allPr xs).bind fun bs => if okS p q c a n && stO2 bs then some (.lst (rowsL bs p q c a n.toNat)) else none
  | _ => none
def stO3 (bs : St2) : Bool := ascB 0 bs && decide (bs.length ≤ 6) && decide (endF 0 bs ≤ 300)
def lots12 (as : List PV) : Option PV := match as with
  | [.tup xs, .tup ys] => (allPr xs).bind fun bs => (allPr ys).bind fun cs => if stO3 bs && stO3 cs then some (.bl true) else none
  | _ => none
def case12 (as : List PV) : Option PV := match as with
  | [.tup [.int p, .int q, .int c], .tup xs, .int a, .int n] => (allPr xs).bind fun bs => if okS p q c a n && decide (n ≤ 60) && stO3 bs && decide (mostH bs ≤ 59) then some (.bl true) else none
  | _ => none

end GB
set_option Elab.async false
set_option exponentiation.threshold 20000
set_option linter.all false
set_option maxRecDepth 100000
set_option maxHeartbeats 4000000
namespace GB
open PySem PySem.Spec PyProof.Rows L2
def top (i : Nat) : Stmt := PySem.Challenge.pw_growback_k12_whole_cells_that_stay.main.body.getD i (.Pass ⟨0, 0, 0, 0⟩)
abbrev st_is_number : Stmt := top 1
abbrev st_tupled : Stmt := top 2
abbrev st_set_of : Stmt := top 3
abbrev st_next_size : Stmt := top 7
abbrev st_is_start : Stmt := top 8
abbrev st_check_start : Stmt := top 9
abbrev st_sizes : Stmt := top 10
abbrev st_is_stays : Stmt := top 12
abbrev st_end_of : Stmt := top 13
abbrev st_holes : Stmt := top 14
abbrev st_how_many_places : Stmt := top 15
abbrev st_plain_stays : Stmt := top 16
abbrev st_both_stays : Stmt := top 17
abbrev st_lowest_place : Stmt := top 18
abbrev st_lowest_beside : Stmt := top 19
abbrev st_stays_run : Stmt := top 20
abbrev st_ahead_at : Stmt := top 21
abbrev st_rows_ahead : Stmt := top 22
abbrev st_last_ahead : Stmt := top 23
abbrev st_goes_free : Stmt := top 24
abbrev st_holes_used : Stmt := top 25
abbrev st_blocks_of : Stmt := top 27
abbrev st_places : Stmt := top 28
abbrev st__law_box : Stmt := top 30
abbrev st__law_take : Stmt := top 31
abbrev st__law_cells : Stmt := top 32
abbrev st__law_same : Stmt := top 33
abbrev st__law_kin : Stmt := top 34
abbrev st__law_next : Stmt := top 35
abbrev st__law_least : Stmt := top 36
abbrev st__law_first : Stmt := top 37
abbrev st__law_taken : Stmt := top 38
abbrev st__law_pairs : Stmt := top 39
abbrev st__law_lowest : Stmt := top 40
abbrev st__law_among : Stmt := top 41
abbrev st__law_lots : Stmt := top 42
abbrev st__law_lots_right : Stmt := top 43
abbrev st__law_case_right : Stmt := top 44
abbrev st__law_hand_right : Stmt := top 45
abbrev st__law_right : Stmt := top 46
abbrev st_law : Stmt := top 47
abbrev FnP (K : PySem.W.Frag) (x : Str) (st : Stmt) (f : Addr) (fd : FuncData) : Prop := FunD K x x (defArgs st) (defBody st) (defScope st) [] [] f fd
noncomputable section
def d_is_number : DS := dRet (dAnd (dUn (fIsi "int") (dVar 0)) (dNot (dUn (fIsi "bool") (dVar 0))))
def f_is_number : DF := runF 1 d_is_number
def d_tupled (g_self : DF) : DS := dRet (dIf (asB (dUn (fIsiL ["list", "tuple"]) (dVar 0))) (dApp fTuple (dCons (dLc (diSeq (dVar 0)) (gcN 1) (dYes) (dCall 1 g_self (dCons (dVar 1) (dNil))) [1]) (dNil))) (dVar 0))
def f_tupled : Nat → DF
  | 0 => fun _ _ => .bad
  | n + 1 => runF 2 (d_tupled (f_tupled n))
def d_set_of : DS := dRet (dApp fTuple (dCons (dUn fSortSet (dVar 0)) (dNil)))
def f_set_of : DF := runF 1 d_set_of
def d_next_size : DS := dSeq (dAsg (dVar 0) (gT 3 (gsC (gN 2) (gsC (gN 3) (gsC (gN 4) (gsN)))))) (dRet (dOp fAdd (dOp fDiv (dOp fMulI (dVar 2) (dVar 1)) (dVar 3)) (dVar 4)))
def f_next_size : DF := runF 5 d_next_size
def d_is_start : DS := dRet (dAnd (dCall 1 f_is_number (dCons (dVar 1) (dNil))) (dAnd (dOp fGe (dVar 1) (dC (.int 1))) (dOp fGt (dCall 2 f_next_size (dCons (dVar 0) (dCons (dVar 1) (dNil)))) (dVar 1))))
def f_is_start : DF := runF 2 d_is_start
def d_check_start : DS := dIfS (dNotB (dTru (dCall 2 f_is_start (dCons (dVar 0) (dCons (dVar 1) (dNil)))))) (dNever) (dSkip)
def f_check_start : DF := runF 2 d_check_start
def d_sizes : DS := dSeq (dDrop (dCall 2 f_check_start (dCons (dVar 0) (dCons (dVar 1) (dNil))))) (dSeq (dAsg (dLst (dCons (dVar 1) (dNil))) (gN 3)) (dSeq (dFor (diRng1 (dCons (dVar 2) (dNil))) (gN 4) (dDrop (dMeth fAppend (dVar 3) (dCons (dCall 2 f_next_size (dCons (dVar 0) (dCons (dOp fIx (dVar 3) (dUn fNeg (dC (.int 1)))) (dNil)))) (dNil))))) (dRet (dApp fTuple (dCons (dVar 3) (dNil))))))
def f_sizes : DF := runF 5 d_sizes
def d_is_stays : DS := dSeq (dIfS (dNotB (asB (dUn (fIsi "tuple") (dVar 0)))) (dRet (dC (.bl false))) (dSkip)) (dSeq (dAsg (dC (.int 0)) (gN 1)) (dSeq (dFor (diSeq (dVar 0)) (gN 2) (dSeq (dIfS (dOrB (dNotB (asB (dUn (fIsi "tuple") (dVar 2)))) (dOrB (asB (dOp fNe (dApp fLen (dCons (dVar 2) (dNil))) (dC (.int 2)))) (dNotB (asB (dApp fAll (dCons (dLc (diSeq (dVar 2)) (gcN 3) (dYes) (dCall 1 f_is_number (dCons (dVar 3) (dNil))) [3]) (dNil))))))) (dRet (dC (.bl false))) (dSkip)) (dSeq (dIfS (dOrB (asB (dOp fLt (dOp fIx (dVar 2) (dC (.int 0))) (dVar 1))) (asB (dOp fLt (dOp fIx (dVar 2) (dC (.int 1))) (dC (.int 1))))) (dRet (dC (.bl false))) (dSkip)) (dAsg (dOp fAdd (dOp fIx (dVar 2) (dC (.int 0))) (dOp fIx (dVar 2) (dC (.int 1)))) (gN 1))))) (dRet (dC (.bl true)))))
def f_is_stays : DF := runF 4 d_is_stays
def d_end_of : DS := dRet (dIf (asB (dOp fGt (dApp fLen (dCons (dVar 0) (dNil))) (dC (.int 0)))) (dApp fSum (dCons (dOp fIx (dVar 0) (dUn fNeg (dC (.int 1)))) (dNil))) (dC (.int 0)))
def f_end_of : DF := runF 1 d_end_of
def d_holes : DS := dSeq (dPar 1 2 (dCons (dLst (dNil)) (dCons (dC (.int 0)) (dNil)))) (dSeq (dFor (diSeq (dVar 0)) (gT 2 (gsC (gN 3) (gsC (gN 4) (gsN)))) (dSeq (dIfS (asB (dOp fGt (dVar 3) (dVar 2))) (dDrop (dMeth fAppend (dVar 1) (dCons (dTup (dCons (dVar 2) (dCons (dOp fSub (dVar 3) (dVar 2)) (dNil)))) (dNil)))) (dSkip)) (dAsg (dOp fAdd (dVar 3) (dVar 4)) (gN 2)))) (dRet (dApp fTuple (dCons (dVar 1) (dNil)))))
def f_holes : DF := runF 5 d_holes
def d_how_many_places : DS := dRet (dApp fSum (dCons (dLc (diSeq (dCall 1 (gZ false holesS) (dCons (dVar 0) (dNil)))) (gc2 2 3) (dYes) (dApp fMax (dCons (dC (.int 0)) (dCons (dOp fAdd (dOp fSub (dVar 3) (dVar 1)) (dC (.int 1))) (dNil)))) [2, 3]) (dNil)))
def f_how_many_places : DF := runF 4 d_how_many_places
def d_plain_stays : DS := dSeq (dAsg (dLst (dNil)) (gN 1)) (dSeq (dFor (diSeq (dCall 1 (f_tupled 8) (dCons (dVar 0) (dNil)))) (gT 2 (gsC (gN 2) (gsC (gN 3) (gsN)))) (dIfS (dAndB (asB (dOp fGt (dApp fLen (dCons (dVar 1) (dNil))) (dC (.int 0)))) (asB (dOp fGe (dApp fSum (dCons (dOp fIx (dVar 1) (dUn fNeg (dC (.int 1)))) (dNil))) (dVar 2)))) (dSeq (dAsg (dOp fIx (dOp fIx (dVar 1) (dUn fNeg (dC (.int 1)))) (dC (.int 0))) (gN 4)) (dAsg (dTup (dCons (dVar 4) (dCons (dOp fSub (dApp fMax (dCons (dApp fSum (dCons (dOp fIx (dVar 1) (dUn fNeg (dC (.int 1)))) (dNil))) (dCons (dOp fAdd (dVar 2) (dVar 3)) (dNil)))) (dVar 4)) (dNil)))) (gSubL (dVar 1) (dUn fNeg (dC (.int 1)))))) (dDrop (dMeth fAppend (dVar 1) (dCons (dTup (dCons (dVar 2) (dCons (dVar 3) (dNil)))) (dNil)))))) (dRet (dApp fTuple (dCons (dVar 1) (dNil)))))
def f_plain_stays : DF := runF 5 d_plain_stays
def d_both_stays : DS := dRet (dCall 1 (gZ false plainS) (dCons (dApp fSortedY (dCons (dLstI (dStar (dCall 1 (f_tupled 8) (dCons (dVar 0) (dNil))) (dStar (dCall 1 (f_tupled 8) (dCons (dVar 1) (dNil))) (dNil)))) (dNil))) (dNil)))
def f_both_stays : DF := runF 2 d_both_stays
def d_lowest_place : DS := dSeq (dAsg (dC (.int 0)) (gN 2)) (dSeq (dFor (diSeq (dVar 0)) (gT 2 (gsC (gN 3) (gsC (gN 4) (gsN)))) (dSeq (dIfS (asB (dOp fGe (dOp fSub (dVar 3) (dVar 2)) (dVar 1))) (dRet (dVar 2)) (dSkip)) (dAsg (dOp fAdd (dVar 3) (dVar 4)) (gN 2)))) (dRet (dVar 2)))
def f_lowest_place : DF := runF 5 d_lowest_place
def d_lowest_beside : DS := dRet (dCall 2 f_lowest_place (dCons (dApp fSortedY (dCons (dLstI (dStar (dCall 1 (f_tupled 8) (dCons (dVar 0) (dNil))) (dCons (dCall 1 (f_tupled 8) (dCons (dVar 1) (dNil))) (dNil)))) (dNil))) (dCons (dVar 2) (dNil))))
def f_lowest_beside : DF := runF 3 d_lowest_beside
def d_stays_run : DS := dSeq (dAsg (dLst (dNil)) (gN 4)) (dSeq (dFor (diSeq (dCall 3 (gZ false (by3 sizesV)) (dCons (dVar 0) (dCons (dVar 2) (dCons (dVar 3) (dNil)))))) (gN 5) (dSeq (dAsg (dLstI (dStar (dCall 1 (f_tupled 8) (dCons (dVar 1) (dNil))) (dStar (dSl (dVar 4) (dPart (dUn fNeg (dC (.int 1)))) (dNoPart)) (dNil)))) (gN 6)) (dDrop (dMeth fAppend (dVar 4) (dCons (dTup (dCons (dCall 2 f_lowest_place (dCons (dApp fSortedY (dCons (dVar 6) (dNil))) (dCons (dVar 5) (dNil)))) (dCons (dVar 5) (dNil)))) (dNil)))))) (dRet (dApp fTuple (dCons (dVar 4) (dNil)))))
def f_stays_run : DF := runF 7 d_stays_run
def d_ahead_at : DS := dSeq (dAsg (dTup (dCons (dCall 1 f_end_of (dCons (dVar 1) (dNil))) (dCons (dCall 4 (gZ false srunS) (dCons (dVar 0) (dCons (dVar 1) (dCons (dVar 2) (dCons (dVar 3) (dNil)))))) (dNil)))) (gT 2 (gsC (gN 4) (gsC (gN 5) (gsN))))) (dRet (dApp fTuple (dCons (dLc (diEn (dCons (dVar 5) (dNil))) (gc2 6 7) (asB (dOp fLt (dOp fIx (dVar 7) (dC (.int 0))) (dVar 4))) (dVar 6) [6, 7]) (dNil))))
def f_ahead_at : DF := runF 8 d_ahead_at
def d_rows_ahead : DS := dSeq (dDrop (dCall 2 f_check_start (dCons (dVar 0) (dCons (dVar 2) (dNil))))) (dSeq (dPar3 3 4 5 (dCons (dCall 1 (f_tupled 8) (dCons (dVar 1) (dNil))) (dCons (dCall 1 f_end_of (dCons (dVar 1) (dNil))) (dCons (dApp fMax (dCons (dLstI (dCons (dC (.int 0)) (dStar (dLc (diSeq (dCall 1 (gZ false holesS) (dCons (dVar 1) (dNil)))) (gc2 10 11) (dYes) (dVar 11) [10, 11]) (dNil)))) (dNil))) (dNil))))) (dSeq (dPar3 6 7 8 (dCons (dLst (dNil)) (dCons (dTup (dCons (dCall 2 f_lowest_place (dCons (dVar 3) (dCons (dVar 2) (dNil)))) (dCons (dVar 2) (dNil)))) (dCons (dC (.int 0)) (dNil))))) (dSeq (dWhile (asB (dOp fLe (dOp fIx (dVar 7) (dC (.int 1))) (dVar 5))) (dSeq (dIfS (asB (dOp fLt (dOp fIx (dVar 7) (dC (.int 0))) (dVar 4))) (dDrop (dMeth fAppend (dVar 6) (dCons (dTup (dCons (dVar 8) (dStar (dVar 7) (dNil)))) (dNil)))) (dSkip)) (dSeq (dAsg (dCall 2 f_next_size (dCons (dVar 0) (dCons (dOp fIx (dVar 7) (dC (.int 1))) (dNil)))) (gN 9)) (dPar 7 8 (dCons (dTup (dCons (dCall 3 f_lowest_beside (dCons (dVar 3) (dCons (dVar 7) (dCons (dVar 9) (dNil))))) (dCons (dVar 9) (dNil)))) (dCons (dOp fAdd (dVar 8) (dC (.int 1))) (dNil))))))) (dRet (dVar 6)))))
def f_rows_ahead : DF := runF 12 d_rows_ahead
def d_last_ahead : DS := dSeq (dAsg (dCall 3 (gZ true raheadS) (dCons (dVar 0) (dCons (dVar 1) (dCons (dVar 2) (dNil))))) (gN 3)) (dRet (dIf (asB (dOp fGt (dApp fLen (dCons (dVar 3) (dNil))) (dC (.int 0)))) (dOp fIx (dOp fIx (dVar 3) (dUn fNeg (dC (.int 1)))) (dC (.int 0))) (dC .non)))
def f_last_ahead : DF := runF 4 d_last_ahead
def d_goes_free : DS := dSeq (dAsg (dCall 3 (gZ true raheadS) (dCons (dVar 0) (dCons (dVar 1) (dCons (dVar 2) (dNil))))) (gN 3)) (dSeq (dIfS (asB (dOp fEq (dApp fLen (dCons (dVar 3) (dNil))) (dC (.int 0)))) (dRet (dTup (dCons (dC (.int 0)) (dCons (dVar 2) (dNil))))) (dSkip)) (dSeq (dAsg (dOp fIx (dVar 3) (dUn fNeg (dC (.int 1)))) (gT 3 (gsC (gN 4) (gsC (gN 5) (gsC (gN 6) (gsN)))))) (dRet (dTup (dCons (dOp fAdd (dVar 4) (dC (.int 1))) (dCons (dCall 2 f_next_size (dCons (dVar 0) (dCons (dVar 6) (dNil)))) (dNil)))))))
def f_goes_free : DF := runF 7 d_goes_free
def d_holes_used : DS := dSeq (dAsg (dLst (dNil)) (gN 3)) (dSeq (dFor (diSeq (dCall 3 (gZ true raheadS) (dCons (dVar 0) (dCons (dVar 1) (dCons (dVar 2) (dNil)))))) (gT 3 (gsC (gN 4) (gsC (gN 5) (gsC (gN 6) (gsN))))) (dDrop (dMeth fExtend (dVar 3) (dCons (dLc (diSeq (dCall 1 (gZ false holesS) (dCons (dVar 1) (dNil)))) (gcN 7) (asB (dChain fLe fLt (dOp fIx (dVar 7) (dC (.int 0))) (dVar 5) (dApp fSum (dCons (dVar 7) (dNil))))) (dVar 7) [7]) (dNil))))) (dRet (dCall 1 f_set_of (dCons (dVar 3) (dNil)))))
def f_holes_used : DF := runF 8 d_holes_used
def d_blocks_of : DS := dSeq (dDrop (dCall 2 f_check_start (dCons (dVar 0) (dCons (dVar 1) (dNil))))) (dSeq (dAsg (dLst (dCons (dTup (dCons (dC (.int 0)) (dCons (dVar 1) (dNil)))) (dNil))) (gN 3)) (dSeq (dFor (diRng1 (dCons (dVar 2) (dNil))) (gN 4) (dSeq (dAsg (dOp fIx (dVar 3) (dUn fNeg (dC (.int 1)))) (gT 2 (gsC (gN 6) (gsC (gN 7) (gsN))))) (dSeq (dAsg (dCall 2 f_next_size (dCons (dVar 0) (dCons (dVar 7) (dNil)))) (gN 5)) (dDrop (dMeth fAppend (dVar 3) (dCons (dTup (dCons (dIf (asB (dOp fLe (dVar 5) (dVar 6))) (dC (.int 0)) (dOp fAdd (dVar 6) (dVar 7))) (dCons (dVar 5) (dNil)))) (dNil))))))) (dRet (dApp fTuple (dCons (dVar 3) (dNil))))))
def f_blocks_of : DF := runF 8 d_blocks_of
def d_places : DS := dRet (dApp fTuple (dCons (dLc (diSeq (dCall 3 (gZ false (by3 blocksV)) (dCons (dVar 0) (dCons (dVar 1) (dCons (dVar 2) (dNil)))))) (gc2 3 4) (dYes) (dVar 3) [3, 4]) (dNil)))
def f_places : DF := runF 5 d_places
def d__law_box : DS := dSeq (dAsg (dIf (asB (dOp fLt (dVar 1) (dApp fLen (dCons (dVar 0) (dNil))))) (dOp fIx (dVar 0) (dVar 1)) (dC (.int 0))) (gN 2)) (dRet (dLst (dCons (dOp fMulI (dApp fAbs (dCons (dVar 2) (dNil))) (dApp fInt (dCons (dOp fGe (dApp fAbs (dCons (dVar 2) (dNil))) (dOp fPow (dC (.int 10)) (dC (.int 18)))) (dNil)))) (dCons (dOp fAdd (dOp fAdd (dOp fMod (dApp fInt (dCons (dVar 2) (dNil))) (dC (.int 2305843009213693951))) (dOp fMulI (dC (.int 39373)) (dVar 1))) (dC (.int 1107))) (dCons (dC (.int 0)) (dNil))))))
def f__law_box : DF := runF 3 d__law_box
def d__law_take : DS := dSeq (dIfS (asB (dOp fGt (dOp fIx (dVar 0) (dC (.int 0))) (dC (.int 0)))) (dSeq (dAsg (dOp fMod (dApp fInt (dCons (dOp fIx (dVar 0) (dC (.int 0))) (dNil))) (dVar 1)) (gN 5)) (dSeq (dAsg (dOp fDiv (dOp fIx (dVar 0) (dC (.int 0))) (dVar 1)) (gSubL (dVar 0) (dC (.int 0)))) (dRet (dVar 5)))) (dSkip)) (dSeq (dAsg (dOp fAdd (dOp fIx (dVar 0) (dC (.int 2))) (dC (.int 1))) (gSubL (dVar 0) (dC (.int 2)))) (dSeq (dAsg (dOp fMod (dApp fInt (dCons (dOp fMulI (dOp fAdd (dOp fIx (dVar 0) (dC (.int 1))) (dOp fMulI (dC (.int 48271)) (dOp fIx (dVar 0) (dC (.int 2))))) (dOp fAdd (dC (.int 39373)) (dOp fIx (dVar 0) (dC (.int 2))))) (dNil))) (dC (.int 2147483647))) (gN 2)) (dSeq (dAsg (dOp fAdd (dOp fMod (dApp fInt (dCons (dVar 2) (dNil))) (dC (.int 40009))) (dC (.int 7))) (gN 3)) (dSeq (dAsg (dOp fMod (dApp fInt (dCons (dOp fMulI (dOp fAdd (dOp fAdd (dVar 2) (dOp fIx (dVar 0) (dC (.int 2)))) (dOp fDiv (dOp fIx (dVar 0) (dC (.int 1))) (dC (.int 1000003)))) (dVar 3)) (dNil))) (dC (.int 2147483629))) (gN 4)) (dRet (dOp fMod (dApp fInt (dCons (dOp fDiv (dOp fMod (dApp fInt (dCons (dOp fAdd (dOp fMulI (dVar 4) (dC (.int 48271))) (dVar 2)) (dNil))) (dC (.int 2147483587))) (dC (.int 64))) (dNil))) (dVar 1)))))))
def f__law_take : DF := runF 6 d__law_take
def d__law_cells : DS := dSeq (dAsg (dOr (dApp fListT (dCons (dSl (dVar 0) (dNoPart) (dPart (dVar 1))) (dNil))) (dLst (dCons (dC (.int 0)) (dNil)))) (gN 2)) (dSeq (dFor (diEn (dCons (dSl (dVar 0) (dPart (dVar 1)) (dPart (dC (.int 63)))) (dNil))) (gT 2 (gsC (gN 3) (gsC (gN 4) (gsN)))) (dSeq (dAsg (dOp fMod (dApp fInt (dCons (dVar 3) (dNil))) (dVar 1)) (gN 5)) (dAsg (dOp fAdd (dOp fIx (dVar 2) (dVar 5)) (dOp fMulI (dVar 4) (dOp fAdd (dVar 3) (dC (.int 2))))) (gSubL (dVar 2) (dVar 5))))) (dRet (dVar 2)))
def f__law_cells : DF := runF 6 d__law_cells
def d__law_same (g_self : DF) : DS := dSeq (dIfS (asB (dUn (fIsiL ["list", "tuple"]) (dVar 1))) (dSeq (dIfS (dOrB (asB (dOp fNe (dUn (fIsi "list") (dVar 0)) (dUn (fIsi "list") (dVar 1)))) (asB (dOp fNe (dUn (fIsi "tuple") (dVar 0)) (dUn (fIsi "tuple") (dVar 1))))) (dRet (dC (.bl false))) (dSkip)) (dRet (dAnd (dOp fEq (dApp fLen (dCons (dVar 0) (dNil))) (dApp fLen (dCons (dVar 1) (dNil)))) (dApp fAll (dCons (dLc (diZip (dCons (dVar 0) (dCons (dVar 1) (dNil)))) (gc2 3 4) (dYes) (dCall 2 g_self (dCons (dVar 3) (dCons (dVar 4) (dNil)))) [3, 4]) (dNil)))))) (dSkip)) (dSeq (dIfS (asB (dUn (fIsi "dict") (dVar 1))) (dSeq (dIfS (dOrB (dNotB (asB (dUn (fIsi "dict") (dVar 0)))) (asB (dOp fNe (dApp fSortedY (dCons (dVar 0) (dNil))) (dApp fSortedY (dCons (dVar 1) (dNil)))))) (dRet (dC (.bl false))) (dSkip)) (dRet (dApp fAll (dCons (dLc (diSeq (dVar 1)) (gcN 2) (dYes) (dCall 2 g_self (dCons (dOp fIx (dVar 0) (dVar 2)) (dCons (dOp fIx (dVar 1) (dVar 2)) (dNil)))) [2]) (dNil))))) (dSkip)) (dSeq (dIfS (dOrB (asB (dUn fIsN (dVar 1))) (asB (dUn (fIsiL ["bool", "str"]) (dVar 1)))) (dRet (dAnd (dOp fEq (dVar 0) (dVar 1)) (dAnd (dOp fEq (dUn (fIsi "bool") (dVar 0)) (dUn (fIsi "bool") (dVar 1))) (dOp fEq (dUn fIsN (dVar 0)) (dUn fIsN (dVar 1)))))) (dSkip)) (dRet (dAnd (dUn (fIsi "int") (dVar 0)) (dAnd (dNot (dUn (fIsi "bool") (dVar 0))) (dOp fEq (dVar 0) (dVar 1)))))))
def f__law_same : Nat → DF
  | 0 => fun _ _ => .bad
  | n + 1 => runF 5 (d__law_same (f__law_same n))
def d__law_kin : DS := dSeq (dAsg (dOp fAdd (dC (.int 1)) (dCall 2 f__law_take (dCons (dVar 0) (dCons (dVar 1) (dNil))))) (gN 3)) (dSeq (dAsg (dOp fAdd (dVar 3) (dCall 2 f__law_take (dCons (dVar 0) (dCons (dOp fSub (dOp fAdd (dVar 1) (dC (.int 1))) (dVar 3)) (dNil))))) (gN 4)) (dSeq (dAsg (dCall 2 f__law_take (dCons (dVar 0) (dCons (dOp fAdd (dVar 2) (dC (.int 1))) (dNil)))) (gN 5)) (dRet (dTup (dCons (dVar 4) (dCons (dVar 3) (dCons (dIf (asB (dOp fEq (dVar 4) (dVar 3))) (dApp fMax (dCons (dC (.int 1)) (dCons (dVar 5) (dNil)))) (dVar 5)) (dNil))))))))
def f__law_kin : DF := runF 6 d__law_kin
def d__law_next : DS := dRet (dOp fAdd (dOp fDiv (dOp fMulI (dOp fIx (dVar 0) (dC (.int 0))) (dVar 1)) (dOp fIx (dVar 0) (dC (.int 1)))) (dOp fIx (dVar 0) (dC (.int 2))))
def f__law_next : DF := runF 2 d__law_next
def d__law_least : DS := dSeq (dAsg (dC (.int 1)) (gN 1)) (dSeq (dWhile (asB (dOp fLe (dCall 2 f__law_next (dCons (dVar 0) (dCons (dVar 1) (dNil)))) (dVar 1))) (dAsg (dOp fAdd (dVar 1) (dC (.int 1))) (gN 1))) (dRet (dVar 1)))
def f__law_least : DF := runF 2 d__law_least
def d__law_first : DS := dRet (dOp fAdd (dCall 1 f__law_least (dCons (dVar 1) (dNil))) (dCall 2 f__law_take (dCons (dVar 0) (dCons (dOp fAdd (dVar 2) (dC (.int 1))) (dNil)))))
def f__law_first : DF := runF 3 d__law_first
def d__law_taken : DS := dSeq (dAsg (dLstI (dNil)) (gN 1)) (dSeq (dFor (diSeq (dVar 0)) (gT 2 (gsC (gN 2) (gsC (gN 3) (gsN)))) (dAsg (dOp fAdd (dVar 1) (dOp lstR (dVar 2) (dOp fAdd (dVar 2) (dVar 3)))) (gN 1))) (dRet (dVar 1)))
def f__law_taken : DF := runF 4 d__law_taken
def d__law_pairs : DS := dSeq (dAsg (dLst (dNil)) (gN 1)) (dSeq (dFor (diSeq (dUn fSortSet (dVar 0))) (gN 2) (dIfS (dAndB (asB (dOp fNe (dVar 1) (dLstI (dNil)))) (asB (dOp fEq (dOp fAdd (dOp fIx (dOp fIx (dVar 1) (dUn fNeg (dC (.int 1)))) (dC (.int 0))) (dOp fIx (dOp fIx (dVar 1) (dUn fNeg (dC (.int 1)))) (dC (.int 1)))) (dVar 2)))) (dAsg (dTup (dCons (dOp fIx (dOp fIx (dVar 1) (dUn fNeg (dC (.int 1)))) (dC (.int 0))) (dCons (dOp fAdd (dOp fIx (dOp fIx (dVar 1) (dUn fNeg (dC (.int 1)))) (dC (.int 1))) (dC (.int 1))) (dNil)))) (gSubL (dVar 1) (dUn fNeg (dC (.int 1))))) (dDrop (dMeth fAppend (dVar 1) (dCons (dTup (dCons (dVar 2) (dCons (dC (.int 1)) (dNil)))) (dNil)))))) (dRet (dApp fTuple (dCons (dVar 1) (dNil)))))
def f__law_pairs : DF := runF 3 d__law_pairs
def d__law_lowest : DS := dSeq (dAsg (dC (.int 0)) (gN 2)) (dSeq (dFor (diSeq (dApp fSortedY (dCons (dVar 0) (dNil)))) (gT 2 (gsC (gN 3) (gsC (gN 4) (gsN)))) (dIfS (dAndB (asB (dOp fGt (dOp fAdd (dVar 2) (dVar 1)) (dVar 3))) (asB (dOp fLt (dVar 2) (dOp fAdd (dVar 3) (dVar 4))))) (dAsg (dOp fAdd (dVar 3) (dVar 4)) (gN 2)) (dSkip))) (dRet (dVar 2)))
def f__law_lowest : DF := runF 5 d__law_lowest
def d__law_among : DS := dSeq (dPar 5 6 (dCons (dLst (dCons (dTup (dCons (dCall 2 f__law_lowest (dCons (dVar 1) (dCons (dVar 2) (dNil)))) (dCons (dVar 2) (dNil)))) (dNil))) (dCons (dVar 2) (dNil)))) (dSeq (dFor (diRng1 (dCons (dVar 3) (dNil))) (gN 4) (dSeq (dAsg (dCall 2 f__law_next (dCons (dVar 0) (dCons (dVar 6) (dNil)))) (gN 6)) (dDrop (dMeth fAppend (dVar 5) (dCons (dTup (dCons (dCall 2 f__law_lowest (dCons (dOp fAdd (dApp fList (dCons (dVar 1) (dNil))) (dLstI (dCons (dOp fIx (dVar 5) (dUn fNeg (dC (.int 1)))) (dNil)))) (dCons (dVar 6) (dNil)))) (dCons (dVar 6) (dNil)))) (dNil)))))) (dRet (dVar 5)))
def f__law_among : DF := runF 7 d__law_among
def d__law_lots : DS := dSeq (dPar 2 3 (dCons (dLst (dNil)) (dCons (dCall 2 f__law_take (dCons (dVar 0) (dCons (dC (.int 4)) (dNil)))) (dNil)))) (dSeq (dFor (diRng1 (dCons (dCall 2 f__law_take (dCons (dVar 0) (dCons (dC (.int 7)) (dNil)))) (dNil))) (gN 1) (dSeq (dAsg (dOp fAdd (dC (.int 1)) (dCall 2 f__law_take (dCons (dVar 0) (dCons (dC (.int 5)) (dNil))))) (gN 4)) (dSeq (dDrop (dMeth fAppend (dVar 2) (dCons (dTup (dCons (dVar 3) (dCons (dVar 4) (dNil)))) (dNil)))) (dAsg (dOp fAdd (dOp fAdd (dVar 3) (dVar 4)) (dCall 2 f__law_take (dCons (dVar 0) (dCons (dC (.int 12)) (dNil))))) (gN 3))))) (dRet (dApp fTuple (dCons (dVar 2) (dNil)))))
def f__law_lots : DF := runF 5 d__law_lots
def d__law_lots_right : DS := dSeq (dAsg (dCall 1 f__law_taken (dCons (dVar 0) (dNil))) (gN 2)) (dSeq (dAsg (dApp fMax (dCons (dOp fAdd (dLstI (dCons (dC (.int 0)) (dNil))) (dLc (diSeq (dVar 2)) (gcN 10) (dYes) (dOp fAdd (dVar 10) (dC (.int 1))) [10])) (dNil))) (gN 3)) (dSeq (dAsg (dCall 1 (gZ false pairsS) (dCons (dLc (diRng1 (dCons (dVar 3) (dNil))) (gcN 10) (asB (dOp fNinX (dVar 10) (dVar 2))) (dVar 10) [10]) (dNil))) (gN 4)) (dSeq (dAsg (dLst (dCons (dCall 1 f_is_stays (dCons (dVar 0) (dNil))) (dCons (dCall 1 f_end_of (dCons (dVar 0) (dNil))) (dCons (dCall 1 (gZ false holesS) (dCons (dVar 0) (dNil))) (dCons (dCall 1 (gZ false plainS) (dCons (dVar 0) (dNil))) (dCons (dCall 2 f_both_stays (dCons (dVar 0) (dCons (dVar 1) (dNil)))) (dNil))))))) (gN 5)) (dSeq (dDrop (dMeth fAppend (dVar 5) (dCons (dCall 2 f_both_stays (dCons (dVar 1) (dCons (dVar 0) (dNil)))) (dNil)))) (dSeq (dAsg (dCall 1 (gZ false pairsS) (dCons (dOp fAdd (dVar 2) (dCall 1 f__law_taken (dCons (dVar 1) (dNil)))) (dNil))) (gN 6)) (dSeq (dAsg (dLstI (dCons (dC (.bl true)) (dCons (dVar 3) (dCons (dVar 4) (dCons (dCall 1 (gZ false pairsS) (dCons (dVar 2) (dNil))) (dCons (dVar 6) (dCons (dVar 6) (dNil)))))))) (gN 7)) (dSeq (dFor (diRng2 (dCons (dC (.int 1)) (dCons (dC (.int 9)) (dNil)))) (gN 8) (dSeq (dAsg (dOp fAddT (dVar 5) (dLstI (dCons (dCall 2 f_how_many_places (dCons (dVar 0) (dCons (dVar 8) (dNil)))) (dCons (dCall 2 f_lowest_place (dCons (dVar 0) (dCons (dVar 8) (dNil)))) (dNil))))) (gN 5)) (dAsg (dOp fAdd (dVar 7) (dLstI (dCons (dApp fSum (dCons (dLc (diSeq (dVar 4)) (gc2 11 12) (dYes) (dApp fMax (dCons (dC (.int 0)) (dCons (dOp fAdd (dOp fSub (dVar 12) (dVar 8)) (dC (.int 1))) (dNil)))) [11, 12]) (dNil))) (dCons (dCall 2 f__law_lowest (dCons (dVar 0) (dCons (dVar 8) (dNil)))) (dNil))))) (gN 7)))) (dSeq (dAsg (dTup (dCons (dCall 2 f__law_lowest (dCons (dVar 0) (dCons (dC (.int 3)) (dNil)))) (dCons (dC (.int 3)) (dNil)))) (gN 9)) (dSeq (dDrop (dMeth fAppend (dVar 5) (dCons (dLc (diRng2 (dCons (dC (.int 1)) (dCons (dC (.int 9)) (dNil)))) (gcN 8) (dYes) (dCall 3 f_lowest_beside (dCons (dVar 0) (dCons (dVar 9) (dCons (dVar 8) (dNil))))) [8]) (dNil)))) (dRet (dCall 2 (gZ false sameF) (dCons (dVar 5) (dCons (dOp fAdd (dVar 7) (dLstI (dCons (dLc (diRng2 (dCons (dC (.int 1)) (dCons (dC (.int 9)) (dNil)))) (gcN 8) (dYes) (dCall 2 f__law_lowest (dCons (dOp fAdd (dApp fList (dCons (dVar 0) (dNil))) (dLstI (dCons (dVar 9) (dNil)))) (dCons (dVar 8) (dNil)))) [8]) (dNil)))) (dNil))))))))))))))
def f__law_lots_right : DF := runF 13 d__law_lots_right
def d__law_case_right : DS := dSeq (dAsg (dTup (dCons (dCall 4 (gZ true amongS) (dCons (dVar 0) (dCons (dVar 1) (dCons (dVar 2) (dCons (dVar 3) (dNil)))))) (dCons (dCall 1 f_end_of (dCons (dVar 1) (dNil))) (dNil)))) (gT 2 (gsC (gN 10) (gsC (gN 11) (gsN))))) (dSeq (dAsg (dLc (diRng1 (dCons (dOp fAdd (dVar 3) (dC (.int 1))) (dNil))) (gcN 17) (asB (dOp fLt (dOp fIx (dOp fIx (dVar 10) (dVar 17)) (dC (.int 0))) (dVar 11))) (dVar 17) [17]) (gN 4)) (dSeq (dAsg (dLstI (dCons (dApp fList (dCons (dCall 4 (gZ false srunS) (dCons (dVar 0) (dCons (dVar 1) (dCons (dVar 2) (dCons (dVar 3) (dNil)))))) (dNil))) (dCons (dApp fList (dCons (dCall 4 f_ahead_at (dCons (dVar 0) (dCons (dVar 1) (dCons (dVar 2) (dCons (dVar 3) (dNil)))))) (dNil))) (dNil)))) (gN 5)) (dSeq (dIfS (dNotB (dTru (dCall 2 (gZ false sameF) (dCons (dVar 5) (dCons (dLstI (dCons (dVar 10) (dCons (dVar 4) (dNil)))) (dNil)))))) (dRet (dC (.bl false))) (dSkip)) (dSeq (dAsg (dCall 4 (gZ true amongS) (dCons (dVar 0) (dCons (dVar 1) (dCons (dVar 2) (dCons (dC (.int 60)) (dNil)))))) (gN 6)) (dSeq (dAsg (dLc (diRng1 (dCons (dC (.int 61)) (dNil))) (gcN 17) (asB (dOp fLt (dOp fIx (dOp fIx (dVar 6) (dVar 17)) (dC (.int 0))) (dVar 11))) (dVar 17) [17]) (gN 7)) (dSeq (dAsg (dIf (asB (dOp fNe (dVar 7) (dLstI (dNil)))) (dOp fAdd (dOp fIx (dVar 7) (dUn fNeg (dC (.int 1)))) (dC (.int 1))) (dC (.int 0))) (gN 8)) (dSeq (dPar 12 13 (dCons (dCall 1 (gZ false holesS) (dCons (dVar 1) (dNil))) (dCons (dLstI (dNil)) (dNil)))) (dSeq (dFor (diSeq (dVar 12)) (gT 2 (gsC (gN 14) (gsC (gN 15) (gsN)))) (dSeq (dAsg (dLc (diSeq (dVar 6)) (gcN 18) (asB (dChain fLe fLt (dVar 14) (dOp fIx (dVar 18) (dC (.int 0))) (dOp fAdd (dVar 14) (dVar 15)))) (dVar 18) [18]) (gN 16)) (dAsg (dOp fAdd (dVar 13) (dOp fMulA (dLstI (dCons (dTup (dCons (dVar 14) (dCons (dVar 15) (dNil)))) (dNil))) (dApp fInt (dCons (dOp fNe (dVar 16) (dLstI (dNil))) (dNil))))) (gN 13)))) (dSeq (dAsg (dLstI (dCons (dCall 3 f_last_ahead (dCons (dVar 0) (dCons (dVar 1) (dCons (dVar 2) (dNil))))) (dCons (dCall 3 f_goes_free (dCons (dVar 0) (dCons (dVar 1) (dCons (dVar 2) (dNil))))) (dCons (dCall 3 (gZ false usedS) (dCons (dVar 0) (dCons (dVar 1) (dCons (dVar 2) (dNil))))) (dNil))))) (gN 5)) (dSeq (dIfS (dNotB (dTru (dCall 2 (gZ false sameF) (dCons (dVar 5) (dCons (dLstI (dCons (dIf (asB (dOp fNe (dVar 7) (dLstI (dNil)))) (dOp fIx (dVar 7) (dUn fNeg (dC (.int 1)))) (dC .non)) (dCons (dTup (dCons (dVar 8) (dCons (dOp fIx (dOp fIx (dVar 6) (dVar 8)) (dC (.int 1))) (dNil)))) (dCons (dApp fTuple (dCons (dVar 13) (dNil))) (dNil))))) (dNil)))))) (dRet (dC (.bl false))) (dSkip)) (dSeq (dAsg (dLc (diSeq (dSl (dVar 6) (dPart (dVar 8)) (dNoPart))) (gcN 18) (dYes) (dOp fSub (dOp fIx (dVar 18) (dC (.int 0))) (dVar 11)) [18]) (gN 9)) (dRet (dCall 2 (gZ false sameF) (dCons (dVar 9) (dCons (dApp fList (dCons (dCall 3 f_places (dCons (dVar 0) (dCons (dOp fIx (dOp fIx (dVar 6) (dVar 8)) (dC (.int 1))) (dCons (dOp fSub (dC (.int 60)) (dVar 8)) (dNil))))) (dNil))) (dNil))))))))))))))))
def f__law_case_right : DF := runF 19 d__law_case_right
def d__law_hand_right : DS := dSeq (dAsg (dTup (dCons (dTup (dCons (dTup (dCons (dC (.int 3)) (dCons (dC (.int 1)) (dNil)))) (dCons (dTup (dCons (dC (.int 10)) (dCons (dC (.int 2)) (dNil)))) (dNil)))) (dCons (dTup (dCons (dC (.int 3)) (dCons (dC (.int 2)) (dCons (dC (.int 0)) (dNil))))) (dNil)))) (gT 2 (gsC (gN 2) (gsC (gN 3) (gsN))))) (dSeq (dAsg (dLstI (dCons (dCall 1 (gZ false holesS) (dCons (dVar 2) (dNil))) (dCons (dCall 1 f_end_of (dCons (dVar 2) (dNil))) (dCons (dCall 2 f_lowest_place (dCons (dVar 2) (dCons (dC (.int 3)) (dNil)))) (dCons (dCall 2 f_lowest_place (dCons (dVar 2) (dCons (dC (.int 4)) (dNil)))) (dCons (dCall 2 f_lowest_place (dCons (dVar 2) (dCons (dC (.int 7)) (dNil)))) (dNil))))))) (gN 0)) (dSeq (dAsg (dOp fAdd (dVar 0) (dLstI (dCons (dCall 2 f_how_many_places (dCons (dVar 2) (dCons (dC (.int 3)) (dNil)))) (dCons (dCall 2 f_both_stays (dCons (dVar 2) (dCons (dTup (dCons (dTup (dCons (dC (.int 4)) (dCons (dC (.int 6)) (dNil)))) (dNil))) (dNil)))) (dNil))))) (gN 0)) (dSeq (dAsg (dLstI (dCons (dTup (dCons (dTup (dCons (dC (.int 0)) (dCons (dC (.int 3)) (dNil)))) (dCons (dTup (dCons (dC (.int 4)) (dCons (dC (.int 6)) (dNil)))) (dNil)))) (dCons (dC (.int 12)) (dCons (dC (.int 0)) (dCons (dC (.int 4)) (dCons (dC (.int 12)) (dCons (dC (.int 5)) (dCons (dTup (dCons (dTup (dCons (dC (.int 3)) (dCons (dC (.int 9)) (dNil)))) (dNil))) (dNil))))))))) (gN 1)) (dSeq (dAsg (dOp fAdd (dVar 0) (dLstI (dCons (dCall 4 (gZ false srunS) (dCons (dVar 3) (dCons (dVar 2) (dCons (dC (.int 2)) (dCons (dC (.int 4)) (dNil)))))) (dCons (dCall 3 f_goes_free (dCons (dVar 3) (dCons (dVar 2) (dCons (dC (.int 2)) (dNil))))) (dCons (dCall 3 f_last_ahead (dCons (dVar 3) (dCons (dVar 2) (dCons (dC (.int 2)) (dNil))))) (dNil)))))) (gN 0)) (dSeq (dAsg (dOp fAdd (dVar 0) (dLstI (dCons (dCall 3 (gZ false usedS) (dCons (dVar 3) (dCons (dVar 2) (dCons (dC (.int 2)) (dNil))))) (dCons (dCall 1 (gZ false holesS) (dCons (dTup (dNil)) (dNil))) (dNil))))) (gN 0)) (dSeq (dAsg (dOp fAdd (dVar 1) (dLstI (dCons (dTup (dCons (dTup (dCons (dC (.int 0)) (dCons (dC (.int 2)) (dNil)))) (dCons (dTup (dCons (dC (.int 4)) (dCons (dC (.int 3)) (dNil)))) (dCons (dTup (dCons (dC (.int 12)) (dCons (dC (.int 4)) (dNil)))) (dCons (dTup (dCons (dC (.int 4)) (dCons (dC (.int 6)) (dNil)))) (dCons (dTup (dCons (dC (.int 12)) (dCons (dC (.int 9)) (dNil)))) (dNil))))))) (dCons (dTup (dCons (dC (.int 4)) (dCons (dC (.int 9)) (dNil)))) (dCons (dC (.int 3)) (dCons (dTup (dCons (dTup (dCons (dC (.int 0)) (dCons (dC (.int 3)) (dNil)))) (dCons (dTup (dCons (dC (.int 4)) (dCons (dC (.int 6)) (dNil)))) (dNil)))) (dCons (dTup (dNil)) (dNil)))))))) (gN 1)) (dSeq (dIfS (dOrB (dNotB (dTru (dCall 2 (gZ false sameF) (dCons (dVar 0) (dCons (dVar 1) (dNil)))))) (dOrB (dNotB (dTru (dCall 2 (gZ false lots12) (dCons (dVar 2) (dCons (dTup (dNil)) (dNil)))))) (dNotB (dTru (dCall 2 (gZ false lots12) (dCons (dTup (dNil)) (dCons (dVar 2) (dNil)))))))) (dRet (dC (.bl false))) (dSkip)) (dSeq (dIfS (dOrB (dNotB (dTru (dCall 4 (gZ false case12) (dCons (dVar 3) (dCons (dVar 2) (dCons (dC (.int 2)) (dCons (dC (.int 14)) (dNil)))))))) (dNotB (dTru (dCall 4 (gZ false case12) (dCons (dTup (dCons (dC (.int 1)) (dCons (dC (.int 1)) (dCons (dC (.int 1)) (dNil))))) (dCons (dTup (dCons (dTup (dCons (dC (.int 0)) (dCons (dC (.int 1)) (dNil)))) (dCons (dTup (dCons (dC (.int 40)) (dCons (dC (.int 3)) (dNil)))) (dNil)))) (dCons (dC (.int 1)) (dCons (dC (.int 14)) (dNil))))))))) (dRet (dC (.bl false))) (dSkip)) (dRet (dCall 4 (gZ false case12) (dCons (dTup (dCons (dC (.int 5)) (dCons (dC (.int 4)) (dCons (dC (.int 0)) (dNil))))) (dCons (dTup (dNil)) (dCons (dC (.int 4)) (dCons (dC (.int 9)) (dNil)))))))))))))))
def f__law_hand_right : DF := runF 4 d__law_hand_right
def d__law_right : DS := dSeq (dFor (diRng1 (dCons (dC (.int 6)) (dNil))) (gN 1) (dSeq (dPar3 2 3 4 (dCons (dCall 3 f__law_kin (dCons (dVar 0) (dCons (dC (.int 12)) (dCons (dC (.int 4)) (dNil))))) (dCons (dCall 1 f__law_lots (dCons (dVar 0) (dNil))) (dCons (dCall 1 f__law_lots (dCons (dVar 0) (dNil))) (dNil))))) (dSeq (dPar 5 6 (dCons (dCall 3 f__law_first (dCons (dVar 0) (dCons (dVar 2) (dCons (dC (.int 9)) (dNil))))) (dCons (dCall 2 f__law_take (dCons (dVar 0) (dCons (dC (.int 15)) (dNil)))) (dNil)))) (dIfS (dOrB (dNotB (dTru (dCall 2 (gZ false lots12) (dCons (dVar 3) (dCons (dVar 4) (dNil)))))) (dNotB (dTru (dCall 4 (gZ false case12) (dCons (dVar 2) (dCons (dVar 3) (dCons (dVar 5) (dCons (dVar 6) (dNil))))))))) (dRet (dC (.bl false))) (dSkip))))) (dRet (dC (.bl true)))
def f__law_right : DF := runF 7 d__law_right
def d_law : DS := dSeq (dIfS (dNotB (dTru (dCall 0 (gZ false handF) dNil))) (dRet (dC (.bl false))) (dSkip)) (dSeq (dAsg (dCall 2 f__law_cells (dCons (dVar 0) (dCons (dC (.int 3)) (dNil)))) (gN 1)) (dRet (dApp fAll (dCons (dLc (diRng1 (dCons (dApp fLen (dCons (dVar 1) (dNil))) (dNil))) (gcN 2) (dYes) (dCall 1 f__law_right (dCons (dCall 2 f__law_box (dCons (dVar 1) (dCons (dVar 2) (dNil)))) (dNil))) [2]) (dNil)))))
def f_law : DF := runF 3 d_law
end

end GB
set_option Elab.async false
set_option exponentiation.threshold 20000
set_option linter.all false
set_option maxRecDepth 100000
set_option maxHeartbeats 2000000
namespace GB
open PySem L2
theorem take_ok {μ : Mu} {l : Nat} {u : List PV} {n : Nat} {t : Int} (hM : getM μ l = some u) (hu : UOk n u) (hn : n < 1000000000) (ht : 0 < t) (ht2 : t.natAbs < 18446744073709551616) :
    ∃ v u', f__law_take [.ref l, .int t] μ = .ok (.int v) (μ.set l (.lst u')) ∧ 0 ≤ v ∧ v < t ∧ UOk (n + 1) u' := by
  obtain ⟨a, b, c, rfl, ha, hb, hb2, hc, hc2⟩ := hu
  have gL := getL_of_M hM
  have gS : ∀ u', getL (μ.set l (.lst u')) l = some u' := fun u' => getL_set hM
  by_cases h0 : 0 < a
  · refine ⟨a % t, [.int (a / t), .int b, .int c], ?_, Int.emod_nonneg _ (by omega), Int.emod_lt_of_pos _ ht, _, _, _, rfl, Int.ediv_nonneg ha (by omega), hb, hb2, hc, by omega⟩
    simp [f__law_take, d__law_take, runF_, fIx_ref gL, h0, fMod_ok ht, fDiv_ok ht ht2, subSet_ok (k := 0) (j := 0) hM ixN30]
  · have e1 : ∀ x : Int, fIx (.ref l) (.int 0) (μ.set l (.lst [.int a, .int b, .int x])) = .ok (.int a) (μ.set l (.lst [.int a, .int b, .int x])) := fun x => fIx_ref (gS _) atI_0
    have e2 : ∀ x : Int, fIx (.ref l) (.int 1) (μ.set l (.lst [.int a, .int b, .int x])) = .ok (.int b) (μ.set l (.lst [.int a, .int b, .int x])) := fun x => fIx_ref (gS _) atI_1
    have e3 : ∀ x : Int, fIx (.ref l) (.int 2) (μ.set l (.lst [.int a, .int b, .int x])) = .ok (.int x) (μ.set l (.lst [.int a, .int b, .int x])) := fun x => fIx_ref (gS _) atI_2
    have m1 : ∀ i : Int, fMulI (.int 48271) (.int i) (μ.set l (.lst [.int a, .int b, .int (c + 1)])) = .ok (.int (48271 * i)) (μ.set l (.lst [.int a, .int b, .int (c + 1)])) := fun i => fMul_l (by decide)
    have m2 : ∀ i : Int, fMulI (.int i) (.int 48271) (μ.set l (.lst [.int a, .int b, .int (c + 1)])) = .ok (.int (i * 48271)) (μ.set l (.lst [.int a, .int b, .int (c + 1)])) := fun i => fMul_r (by decide)
    have m3 : ∀ i : Int, fMulI (.int i) (.int (39373 + (c + 1))) (μ.set l (.lst [.int a, .int b, .int (c + 1)])) = .ok (.int (i * (39373 + (c + 1)))) (μ.set l (.lst [.int a, .int b, .int (c + 1)])) := fun i => fMul_r (by omega)
    have m4 : ∀ i j : Int, fMulI (.int i) (.int (j % 40009 + 7)) (μ.set l (.lst [.int a, .int b, .int (c + 1)])) = .ok (.int (i * (j % 40009 + 7))) (μ.set l (.lst [.int a, .int b, .int (c + 1)])) := fun i j => fMul_r (by
      have := Int.emod_nonneg j (show (40009 : Int) ≠ 0 by decide)
      have := Int.emod_lt_of_pos j (show (0 : Int) < 40009 by decide)
      omega)
    refine ⟨(((((b + 48271 * (c + 1)) * (39373 + (c + 1)) % 2147483647 + (c + 1) + b / 1000003) * ((b + 48271 * (c + 1)) * (39373 + (c + 1)) % 2147483647 % 40009 + 7)) % 2147483629 * 48271 + (b + 48271 * (c + 1)) * (39373 + (c + 1)) % 2147483647) % 2147483587 / 64) % t, [.int a, .int b, .int (c + 1)], ?_, Int.emod_nonneg _ (by omega), Int.emod_lt_of_pos _ ht, _, _, _, rfl, ha, hb, hb2, by omega, by omega⟩
    simp [f__law_take, d__law_take, runF_, fIx_ref gL, h0, subSet_ok (k := 2) (j := 2) hM ixN32, e1, e2, e3, m1, m2, m3, m4, fMod_ok (show (0 : Int) < 2147483647 by decide), fMod_ok (show (0 : Int) < 40009 by decide), fMod_ok (show (0 : Int) < 2147483629 by decide), fMod_ok (show (0 : Int) < 2147483587 by decide), fMod_ok ht,
        fDiv_ok (show (0 : Int) < 1000003 by decide) (by decide), fDiv_ok (show (0 : Int) < 64 by decide) (by decide)]
theorem take_u {μ : Mu} {l n : Nat} {t : Int} (h : Urn l n μ) (hn : n < 1000000000) (ht : 0 < t) (ht2 : t.natAbs < 18446744073709551616) :
    ∃ v μ', f__law_take [.ref l, .int t] μ = .ok (.int v) μ' ∧ 0 ≤ v ∧ v < t ∧ Urn l (n + 1) μ' ∧ Fr l μ μ' := by
  obtain ⟨u, h1, h2⟩ := h
  obtain ⟨v, u', e, v0, v1, o⟩ := take_ok h1 h2 hn ht ht2
  exact ⟨v, _, e, v0, v1, ⟨u', getM_set h1, o⟩, Fr.set⟩

end GB
set_option Elab.async false
set_option exponentiation.threshold 20000
set_option linter.all false
set_option maxRecDepth 100000
set_option maxHeartbeats 4000000
namespace GB
open PySem PySem.Spec PyProof.Rows L2
end GB
set_option Elab.async false
set_option exponentiation.threshold 20000
set_option linter.all false
set_option maxRecDepth 100000
set_option maxHeartbeats 2000000
namespace GB
open PySem L2
theorem box_ok {μ : Mu} {m k : Nat} {xs : List Int} (hm : getL μ m = some (xs.map .int)) (hk : k < xs.length) (hx : xs.length ≤ 1000) :
    ∃ u, f__law_box [.ref m, .int k] μ = .ok (.ref μ.length) (μ ++ [.lst u]) ∧ UOk 0 u := by
  have hg : atI (xs.map PV.int) (k : Int) = some (.int xs[k]) := atI_nat (by rw [List.getElem?_map, List.getElem?_eq_getElem hk]; rfl)
  have hl : (k : Int) < (xs.map PV.int).length := by rw [List.length_map]; omega
  have h0 := Int.emod_nonneg xs[k] (show (2305843009213693951 : Int) ≠ 0 by decide)
  have h1 := Int.emod_lt_of_pos xs[k] (show (0 : Int) < 2305843009213693951 by decide)
  have hp : fPow (.int 10) (.int 18) μ = .ok (.int 1000000000000000000) μ := fPow_lit (by decide)
  have hlk : (k : Int) < xs.length := by omega
  by_cases hn : xs[k] < 0
  · by_cases hb : (1000000000000000000 : Int) ≤ -xs[k]
    · refine ⟨[.int (-xs[k]), .int (xs[k] % 2305843009213693951 + 39373 * k + 1107), .int 0], ?_, _, _, _, rfl, by omega, by omega, by omega, by omega, by omega⟩
      simp [f__law_box, d__law_box, runF_, fLen_ref hm, hlk, fIx_ref hm hg, hn, hp, hb, fMul_r (j := (1 : Int)) (by decide), fMod_ok (show (0 : Int) < 2305843009213693951 by decide), fMul_l (i := (39373 : Int)) (by decide)]
    · refine ⟨[.int 0, .int (xs[k] % 2305843009213693951 + 39373 * k + 1107), .int 0], ?_, _, _, _, rfl, by omega, by omega, by omega, by omega, by omega⟩
      simp [f__law_box, d__law_box, runF_, fLen_ref hm, hlk, fIx_ref hm hg, hn, hp, hb, fMul_r (j := (0 : Int)) (by decide), fMod_ok (show (0 : Int) < 2305843009213693951 by decide), fMul_l (i := (39373 : Int)) (by decide)]
  · by_cases hb : (1000000000000000000 : Int) ≤ xs[k]
    · refine ⟨[.int xs[k], .int (xs[k] % 2305843009213693951 + 39373 * k + 1107), .int 0], ?_, _, _, _, rfl, by omega, by omega, by omega, by omega, by omega⟩
      simp [f__law_box, d__law_box, runF_, fLen_ref hm, hlk, fIx_ref hm hg, hn, hp, hb, fMul_r (j := (1 : Int)) (by decide), fMod_ok (show (0 : Int) < 2305843009213693951 by decide), fMul_l (i := (39373 : Int)) (by decide)]
    · refine ⟨[.int 0, .int (xs[k] % 2305843009213693951 + 39373 * k + 1107), .int 0], ?_, _, _, _, rfl, by omega, by omega, by omega, by omega, by omega⟩
      simp [f__law_box, d__law_box, runF_, fLen_ref hm, hlk, fIx_ref hm hg, hn, hp, hb, fMul_r (j := (0 : Int)) (by decide), fMod_ok (show (0 : Int) < 2305843009213693951 by decide), fMul_l (i := (39373 : Int)) (by decide)]
theorem box_u {μ : Mu} {m k : Nat} {xs : List Int} (hm : getL μ m = some (xs.map .int)) (hk : k < xs.length) (hx : xs.length ≤ 1000) :
    ∃ μ', f__law_box [.ref m, .int k] μ = .ok (.ref μ.length) μ' ∧ Urn μ.length 0 μ' ∧ m ≠ μ.length ∧ getL μ' m = some (xs.map .int) := by
  obtain ⟨u, e, o⟩ := box_ok hm hk hx
  exact ⟨_, e, ⟨u, getM_last, o⟩, by have := getL_lt hm; omega, getL_app hm⟩

end GB
set_option Elab.async false
set_option exponentiation.threshold 20000
set_option linter.all false
set_option maxRecDepth 100000
set_option maxHeartbeats 4000000
namespace GB
open PySem PySem.Spec PyProof.Rows L2
end GB
set_option Elab.async false
set_option exponentiation.threshold 20000
set_option linter.all false
set_option maxRecDepth 100000
set_option maxHeartbeats 2000000
namespace GB
open PySem L2
theorem cells_ok {μ : Mu} {ns : List Int} (hn : ns.length ≤ 63) :
    ∃ (lc : Nat) (xs : List Int) (μ' : Mu), f__law_cells [scriptP ns, .int 3] μ = .ok (.ref lc) μ' ∧ getL μ' lc = some (xs.map .int) ∧ 1 ≤ xs.length ∧ xs.length ≤ 3 := by
  unfold f__law_cells d__law_cells scriptP
  rw [runF_]
  have c1 : cutP (ns.map PV.int) none (some 3) = (ns.take 3).map .int := by
    have := cut_to (ns.map PV.int) 3
    rw [← List.map_take] at this; exact this
  have c2 : cutP (ns.map PV.int) (some 3) (some 63) = ((ns.drop 3).take 60).map .int := by
    have := cut_both (ns.map PV.int) 3 63 (by omega)
    rw [← List.map_drop, ← List.map_take] at this; exact this
  -- the loop, from where the list stands at lc
  have loop : ∀ (lc : Nat) (μ2 : Mu) (xs : List Int), getM μ2 lc = some (xs.map .int) → 1 ≤ xs.length → xs.length ≤ 3 → (3 < ns.length → xs.length = 3) →
      ∃ (lc' : Nat) (xs' : List Int) (μ' : Mu), ((((dFor (diEn (dCons (dSl (dVar 0) (dPart (dVar 1)) (dPart (dC (.int 63)))) (dNil))) (gT 2 (gsC (gN 3) (gsC (gN 4) (gsN)))) (dSeq (dAsg (dOp fMod (dApp fInt (dCons (dVar 3) (dNil))) (dVar 1)) (gN 5)) (dAsg (dOp fAdd (dOp fIx (dVar 2) (dVar 5)) (dOp fMulI (dVar 4) (dOp fAdd (dVar 3) (dC (.int 2))))) (gSubL (dVar 2) (dVar 5))))) [some (.scr (ns.map .int)), some (.int 3), some (.ref lc), none, none, none] μ2).seq (dRet (dVar 2))).toR) = .ok (.ref lc') μ' ∧ getL μ' lc' = some (xs'.map .int) ∧ 1 ≤ xs'.length ∧ xs'.length ≤ 3 := by
    intro lc μ2 xs h1 h3 h4 h5
    simp only [dFor_, diEn_, dCons_, dSl_, dVar_0, dPart_, dVar_1, R.bind_ok, unI_, dC_, fSl_scr, c2, dNil_, en_lst, R.thn_ok]
    generalize e : dForN (jEnum (jTup (((ns.drop 3).take 60).map .int))) _ _ _ _ _ _ = o
    have key : ∃ (ys : List Int) (x3 x4 x5 : Option PV) (μ' : Mu), o = .nx [some (.scr (ns.map .int)), some (.int 3), some (.ref lc), x3, x4, x5] μ' ∧ getM μ' lc = some (ys.map .int) ∧ ys.length = xs.length := by
      rw [← e]
      refine for_items (items := numd (((ns.drop 3).take 60).map .int)) (Inv := fun i ρ μ' => ∃ (ys : List Int) (x3 x4 x5 : Option PV), ρ = [some (.scr (ns.map .int)), some (.int 3), some (.ref lc), x3, x4, x5] ∧ getM μ' lc = some (ys.map .int) ∧ ys.length = xs.length)
        (Q := fun o => ∃ (ys : List Int) (x3 x4 x5 : Option PV) (μ' : Mu), o = .nx [some (.scr (ns.map .int)), some (.int 3), some (.ref lc), x3, x4, x5] μ' ∧ getM μ' lc = some (ys.map .int) ∧ ys.length = xs.length) ?_ ?_ ?_ ?_ ?_
      · rintro i ρ μ' _
        exact jEnum_at i
      · rw [numd_len, List.length_map, List.length_take, List.length_drop]; unfold lid; omega
      · exact ⟨xs, none, none, none, rfl, h1, rfl⟩
      · rintro ρ μ' ⟨ys, x3, x4, x5, rfl, e1, e2⟩
        exact ⟨ys, x3, x4, x5, μ', rfl, e1, e2⟩
      · rintro i x ρ μ' hx ⟨ys, x3, x4, x5, rfl, e1, e2⟩
        rw [numd_get] at hx
        cases q : (((ns.drop 3).take 60).map PV.int)[i]? with
        | none => rw [q] at hx; cases hx
        | some y =>
          rw [q] at hx
          cases hx
          have hi : i < ((ns.drop 3).take 60).length := by
            have := (List.getElem?_eq_some_iff.mp q).1
            rwa [List.length_map] at this
          have hi2 : i < 60 ∧ 3 < ns.length := by rw [List.length_take, List.length_drop] at hi; omega
          have hy : y = .int (((ns.drop 3).take 60)[i]) := by
            rw [List.getElem?_map, List.getElem?_eq_getElem hi] at q
            exact (Option.some.inj q).symm
          subst hy
          have h33 := h5 hi2.2
          have hm := Int.emod_nonneg (i : Int) (show (3 : Int) ≠ 0 by decide)
          have hm2 := Int.emod_lt_of_pos (i : Int) (show (0 : Int) < 3 by decide)
          have hat : ((i : Int) % 3).toNat < ys.length := by omega
          have ha : atI (ys.map PV.int) ((i : Int) % 3) = some (.int ys[((i : Int) % 3).toNat]) := by
            have := atI_nat (show (ys.map PV.int)[((i : Int) % 3).toNat]? = some (.int ys[((i : Int) % 3).toNat]) by rw [List.getElem?_map, List.getElem?_eq_getElem hat]; rfl)
            rw [Int.toNat_of_nonneg hm] at this
            exact this
          have hix : ixN (ys.map PV.int).length ((i : Int) % 3) = some ((i : Int) % 3).toNat := by
            unfold ixN
            rw [if_pos hm, if_pos (by rw [List.length_map]; omega)]
          have hmul : fMulI (.int ((ns.drop 3).take 60)[i]) (.int ((i : Int) + 2)) μ' = .ok (.int (((ns.drop 3).take 60)[i] * ((i : Int) + 2))) μ' := fMul_r (by omega)
          refine ⟨_, _, rfl, ?_⟩
          simp only [dSeq_, dAsg_, dOp_, dApp_, dCons_, dNil_, dVar_0, dVar_1, dVar_2, dVar_3, dVar_4, dC_, R.bind_ok, fInt_int, fMod_ok (show (0 : Int) < 3 by decide), R.thn_ok, gN_, aft_, seq_nx, List.set_cons_succ, List.set_cons_zero, dVar_5, fIx_ref (getL_of_M e1) ha, fAdd_int, hmul, gSubL_, subSet_ok e1 hix, turnTo_nx]
          refine ⟨ys.set ((i : Int) % 3).toNat (ys[((i : Int) % 3).toNat] + ((ns.drop 3).take 60)[i] * ((i : Int) + 2)), _, _, _, rfl, ?_, by rw [List.length_set]; exact e2⟩
          rw [getM_set e1, List.map_set]
    obtain ⟨ys, x3, x4, x5, μ', rfl, e1, e2⟩ := key
    exact ⟨lc, ys, μ', by simp, getL_of_M e1, by omega, by omega⟩
  rw [dSeq_]
  cases ns with
  | nil =>
    have h3 := loop (μ.length + 1) (μ ++ [.lst []] ++ [.lst [.int 0]]) [0] (getM_last' (by simp)) (by decide) (by decide) (by intro h; simp at h)
    have hl2 : getL (μ ++ [.lst []]) μ.length = some [] := getL_last' (by simp)
    have e0 : dAsg (dOr (dApp fListT (dCons (dSl (dVar 0) (dNoPart) (dPart (dVar 1))) (dNil))) (dLst (dCons (dC (.int 0)) (dNil)))) (gN 2) [some (.scr (([] : List Int).map .int)), some (.int 3), none, none, none, none] μ = .nx [some (.scr (([] : List Int).map .int)), some (.int 3), some (.ref (μ.length + 1)), none, none, none] (μ ++ [.lst []] ++ [.lst [.int 0]]) := by
      have ht : fTru (.ref μ.length) (μ ++ [.lst []]) = some false := by rw [fTru_ref hl2]; rfl
      have c1' : cutP (([] : List Int).map PV.int) none (some 3) = [] := c1
      simp only [dAsg_, dOr_, dApp_, dCons_, dSl_, dVar_0, dNoPart_, dPart_, dVar_1, R.bind_ok, unI_, fSl_scr, c1', dNil_, fListT_lst, ht, byT_f, dLst_, dC_, List.length_cons, List.length_nil, R.thn_ok, gN_, aft_, List.set_cons_succ, List.set_cons_zero]
      simp
    show ∃ (lc : Nat) (xs : List Int) (μ' : Mu), ((dAsg _ _ [some (.scr (([] : List Int).map .int)), some (.int 3), none, none, none, none] μ).seq _).toR = _ ∧ _
    rw [e0, seq_nx, dSeq_]
    exact h3
  | cons n0 nr =>
    have h3 := loop μ.length (μ ++ [.lst (((n0 :: nr).take 3).map .int)]) ((n0 :: nr).take 3) (getM_last' (by simp)) (by rw [List.length_take, List.length_cons]; omega) (by rw [List.length_take]; omega) (fun h => by rw [List.length_take]; omega)
    have hl2 : getL (μ ++ [.lst (((n0 :: nr).take 3).map .int)]) μ.length = some (((n0 :: nr).take 3).map .int) := getL_last' (by simp)
    have e0 : dAsg (dOr (dApp fListT (dCons (dSl (dVar 0) (dNoPart) (dPart (dVar 1))) (dNil))) (dLst (dCons (dC (.int 0)) (dNil)))) (gN 2) [some (.scr ((n0 :: nr).map .int)), some (.int 3), none, none, none, none] μ = .nx [some (.scr ((n0 :: nr).map .int)), some (.int 3), some (.ref μ.length), none, none, none] (μ ++ [.lst (((n0 :: nr).take 3).map .int)]) := by
      have ht : fTru (.ref μ.length) (μ ++ [.lst (((n0 :: nr).take 3).map .int)]) = some true := by rw [fTru_ref hl2]; rfl
      simp only [dAsg_, dOr_, dApp_, dCons_, dSl_, dVar_0, dNoPart_, dPart_, dVar_1, R.bind_ok, unI_, fSl_scr, c1, dNil_, fListT_lst, ht, byT_t, R.thn_ok, gN_, aft_, List.set_cons_succ, List.set_cons_zero]
    show ∃ (lc : Nat) (xs : List Int) (μ' : Mu), ((dAsg _ _ [some (.scr ((n0 :: nr).map .int)), some (.int 3), none, none, none, none] μ).seq _).toR = _ ∧ _
    rw [e0, seq_nx, dSeq_]
    exact h3

end GB
set_option Elab.async false
set_option exponentiation.threshold 20000
set_option linter.all false
set_option maxRecDepth 100000
set_option maxHeartbeats 4000000
namespace GB
open PySem PySem.Spec PyProof.Rows L2
end GB
set_option Elab.async false
set_option exponentiation.threshold 20000
set_option linter.all false
set_option maxRecDepth 100000
set_option maxHeartbeats 2000000
namespace GB
open PySem L2
theorem kin_u {μ : Mu} {l n : Nat} {t m : Int} (h : Urn l n μ) (hn : n < 900000000) (ht : 1 ≤ t) (ht2 : t ≤ 1000) (hm : 0 ≤ m) (hm2 : m < 1000000000000000000) :
    ∃ p q c μ', f__law_kin [.ref l, .int t, .int m] μ = .ok (rl p q c) μ' ∧ Rk p q c ∧ p ≤ t ∧ c ≤ max 1 m ∧ Urn l (n + 3) μ' ∧ Fr l μ μ' := by
  obtain ⟨v1, μ1, e1, a1, b1, o1, f1⟩ := take_u (t := t) h (by omega) (by omega) (by omega)
  obtain ⟨v2, μ2, e2, a2, b2, o2, f2⟩ := take_u (t := t + 1 - (1 + v1)) o1 (by omega) (by omega) (by omega)
  obtain ⟨v3, μ3, e3, a3, b3, o3, f3⟩ := take_u (t := m + 1) o2 (by omega) (by omega) (by omega)
  have fr := (f1.trans f2).trans f3
  by_cases hpq : 1 + v1 + v2 = 1 + v1
  · by_cases hv3 : v3 > 1
    · refine ⟨1 + v1 + v2, 1 + v1, v3, μ3, ?_, ⟨by omega, by omega, by omega, by omega, fun _ => by omega⟩, by omega, by omega, o3, fr⟩
      simp [f__law_kin, d__law_kin, runF_, e1, e2, e3, hpq, hv3]
    · refine ⟨1 + v1 + v2, 1 + v1, 1, μ3, ?_, ⟨by omega, by omega, by omega, by omega, fun _ => by omega⟩, by omega, by omega, o3, fr⟩
      simp [f__law_kin, d__law_kin, runF_, e1, e2, e3, hpq, hv3]
  · refine ⟨1 + v1 + v2, 1 + v1, v3, μ3, ?_, ⟨by omega, by omega, by omega, by omega, fun h => absurd h hpq⟩, by omega, by omega, o3, fr⟩
    simp [f__law_kin, d__law_kin, runF_, e1, e2, e3, hpq]

end GB
set_option Elab.async false
set_option exponentiation.threshold 20000
set_option linter.all false
set_option maxRecDepth 100000
set_option maxHeartbeats 4000000
namespace GB
open PySem PySem.Spec PyProof.Rows L2
end GB
set_option Elab.async false
set_option exponentiation.threshold 20000
set_option linter.all false
set_option maxRecDepth 100000
set_option maxHeartbeats 2000000
namespace GB
open PySem L2
theorem lnext_eq {p q c a : Int} {μ : Mu} (h : Rk p q c) : f__law_next [rl p q c, .int a] μ = .ok (.int (nxt p q c a)) μ := by
  simp [f__law_next, d__law_next, runF_, fIx_tup0, fIx_tup1, fIx_tup2, fMul_l h.ps, fDiv_ok h.q0 h.qs, nxt]

end GB
set_option Elab.async false
set_option exponentiation.threshold 20000
set_option linter.all false
set_option maxRecDepth 100000
set_option maxHeartbeats 4000000
namespace GB
open PySem PySem.Spec PyProof.Rows L2
end GB
set_option Elab.async false
set_option exponentiation.threshold 20000
set_option linter.all false
set_option maxRecDepth 100000
set_option maxHeartbeats 2000000
namespace GB
open PySem L2
theorem least_ok {p q c : Int} {μ : Mu} (h : Rk p q c) : ∃ m, f__law_least [rl p q c] μ = .ok (.int m) μ ∧ 1 ≤ m ∧ m ≤ q ∧ m < nxt p q c m ∧ ∀ k, 1 ≤ k → k < m → nxt p q c k ≤ k := by
  generalize e : dWhile (asB (dOp fLe (dCall 2 f__law_next (dCons (dVar 0) (dCons (dVar 1) (dNil)))) (dVar 1))) (dAsg (dOp fAdd (dVar 1) (dC (.int 1))) (gN 1)) [some (rl p q c), some (.int 1)] μ = o
  have key : ∃ m, o = .nx [some (rl p q c), some (.int m)] μ ∧ 1 ≤ m ∧ m ≤ q ∧ m < nxt p q c m ∧ ∀ k, 1 ≤ k → k < m → nxt p q c k ≤ k := by
    rw [← e, dWhile_]
    refine while_gen (Inv := fun ρ μ' => μ' = μ ∧ ∃ m, ρ = [some (rl p q c), some (.int m)] ∧ 1 ≤ m ∧ m ≤ q ∧ ∀ k, 1 ≤ k → k < m → nxt p q c k ≤ k)
      (fun ρ _ => match ρ with | [_, some (.int m)] => (q - m).toNat | _ => 0)
      (Q := fun o => ∃ m, o = .nx [some (rl p q c), some (.int m)] μ ∧ 1 ≤ m ∧ m ≤ q ∧ m < nxt p q c m ∧ ∀ k, 1 ≤ k → k < m → nxt p q c k ≤ k) ?_ ⟨rfl, 1, rfl, by omega, h.q1, fun k h1 h2 => by omega⟩ ?_
    · have := h.q1; have := h.pq; have := h.p2
      show (q - 1).toNat < lid
      unfold lid; omega
    · rintro ρ μ' ⟨rfl, m, rfl, h1, h2, h3⟩
      refine ⟨decide (nxt p q c m ≤ m), μ', by simp [lnext_eq h], ?_⟩
      by_cases hh : nxt p q c m ≤ m
      · have hq := nxt_q h
        have hmq : m ≠ q := fun z => by rw [z] at hh; omega
        simp only [decide_eq_true hh, if_true]
        simp
        refine ⟨⟨by omega, by omega, fun k k1 k2 => ?_⟩, by omega⟩
        by_cases hk : k = m
        · rw [hk]; exact hh
        · exact h3 k k1 (by omega)
      · simp only [decide_eq_false hh, Bool.false_eq_true, if_false]
        exact ⟨m, rfl, h1, h2, by omega, h3⟩
  obtain ⟨m, rfl, h1, h2, h3, h4⟩ := key
  refine ⟨m, ?_, h1, h2, h3, h4⟩
  simp [f__law_least, d__law_least, runF_, -dWhile_, e]

end GB
set_option Elab.async false
set_option exponentiation.threshold 20000
set_option linter.all false
set_option maxRecDepth 100000
set_option maxHeartbeats 4000000
namespace GB
open PySem PySem.Spec PyProof.Rows L2
end GB
set_option Elab.async false
set_option exponentiation.threshold 20000
set_option linter.all false
set_option maxRecDepth 100000
set_option maxHeartbeats 2000000
namespace GB
open PySem L2
theorem first_u {μ : Mu} {l n : Nat} {p q c z : Int} (hu : Urn l n μ) (hn : n < 900000000) (h : Rk p q c) (hz : 0 ≤ z) (hz2 : z < 1000000000000000000) :
    ∃ a μ', f__law_first [.ref l, rl p q c, .int z] μ = .ok (.int a) μ' ∧ 1 ≤ a ∧ a < nxt p q c a ∧ a ≤ q + z ∧ Urn l (n + 1) μ' ∧ Fr l μ μ' := by
  obtain ⟨m, e1, m1, m2, m3, _⟩ := least_ok (μ := μ) h
  obtain ⟨v, μ', e2, v1, v2, o, f⟩ := take_u (t := z + 1) hu (by omega) (by omega) (by omega)
  refine ⟨m + v, μ', ?_, by omega, start_ge h m3 (by omega), by omega, o, f⟩
  simp [f__law_first, d__law_first, runF_, e1, e2]

end GB
set_option Elab.async false
set_option exponentiation.threshold 20000
set_option linter.all false
set_option maxRecDepth 100000
set_option maxHeartbeats 4000000
namespace GB
open PySem PySem.Spec PyProof.Rows L2
end GB
set_option Elab.async false
set_option exponentiation.threshold 20000
set_option linter.all false
set_option maxRecDepth 100000
set_option maxHeartbeats 2000000
namespace GB
open PySem L2
theorem same_eq : ∀ (n : Nat) (x : PV) (μ : Mu), smp n x = true → noref x = true → f__law_same n [x, x] μ = .ok (.bl true) μ
  | 0, _, _, h, _ => by simp [smp] at h
  | n + 1, x, μ, h, hr => by
    have row : ∀ (xs : List PV) (r0 r1 r2 : Option PV), xs.length < 1000000 → smpL n xs = true → norefL xs = true → dLcN (jZip (jTup xs) (jTup xs)) (gc2 3 4) dYes (dCall 2 (f__law_same n) (dCons (dVar 3) (dCons (dVar 4) dNil))) [r0, r1, r2, none, none] lid 0 μ = .ok (xs.map fun _ => .bl true) μ := by
      intro xs r0 r1 r2 hl hs hn
      rw [lc_zip (by omega), zipI_self]
      have hn' : ∀ y ∈ xs, noref y = true := by
        clear hs hl
        induction xs with
        | nil => intro y hy; simp at hy
        | cons z zs ih =>
          unfold norefL at hn
          rw [Bool.and_eq_true] at hn
          intro y hy
          rcases List.mem_cons.mp hy with rfl | hy
          · exact hn.1
          · exact ih hn.2 y hy
      refine lcP_ty (fun _ => .bl true) fun y hy => ⟨_, rfl, ?_⟩
      have := same_eq n y μ (smpL_mem hs y hy) (hn' y hy)
      simp only [dCall_, dCons_, dNil_, dVar_3, dVar_4, R.bind_ok, List.set_cons_succ, List.set_cons_zero, List.length_cons, List.length_nil, Nat.reduceAdd, if_true, this, R.nex_ok]
    cases x with
    | non => simp [f__law_same, d__law_same, runF_, fIsiL, fIsi, tyN, isTyL, isTy, fEq_non]
    | bl b => simp [f__law_same, d__law_same, runF_, fIsiL, fIsi, tyN, isTyL, isTy, fIsN]
    | int i => simp [f__law_same, d__law_same, runF_, fIsiL, fIsi, tyN, isTyL, isTy]
    | tup xs =>
      simp only [smp, Bool.and_eq_true, decide_eq_true_eq] at h
      have r := row xs (some (.tup xs)) (some (.tup xs)) none h.1 h.2 hr
      simp [f__law_same, d__law_same, runF_, fIsiL, fIsi, tyN, isTyL, isTy, wipeP, r, fAll_true]
    | lst xs =>
      simp only [smp, Bool.and_eq_true, decide_eq_true_eq] at h
      have r := row xs (some (.lst xs)) (some (.lst xs)) none h.1 h.2 hr
      simp [f__law_same, d__law_same, runF_, fIsiL, fIsi, tyN, isTyL, isTy, wipeP, r, fAll_true]
    | _ => simp [smp] at h
theorem same_up (as : List PV) (v : PV) (_ : as.length = 2) (hv : sameF as = some v) : Ends false (f__law_same 8) as v := by
  unfold sameF at hv
  split at hv
  · rename_i x y
    split at hv
    · rename_i hk
      cases hv
      rw [Bool.and_eq_true] at hk
      obtain rfl := eqP_eq hk.1
      exact ⟨rfl, _, same_eq 8 _ [] (smp_up hk.2 8 (by decide)) (smp_noref 6 hk.2)⟩
    · cases hv
  · cases hv

end GB
set_option Elab.async false
set_option exponentiation.threshold 20000
set_option linter.all false
set_option maxRecDepth 100000
set_option maxHeartbeats 4000000
namespace GB
open PySem PySem.Spec PyProof.Rows L2
end GB
set_option Elab.async false
set_option exponentiation.threshold 20000
set_option linter.all false
set_option maxRecDepth 100000
set_option maxHeartbeats 2000000
namespace GB
open PySem L2
theorem next_eq {p q c a : Int} {μ : Mu} (h : Rk p q c) : f_next_size [rl p q c, .int a] μ = .ok (.int (nxt p q c a)) μ := by
  simp [f_next_size, d_next_size, runF_, fMul_l h.ps, fDiv_ok h.q0 h.qs, nxt]
theorem isnum_eq {a : Int} {μ : Mu} : f_is_number [.int a] μ = .ok (.bl true) μ := by
  simp [f_is_number, d_is_number, runF]
theorem start_eq {p q c a : Int} {μ : Mu} (h : Rk p q c) (h1 : 1 ≤ a) (h2 : a < nxt p q c a) : f_is_start [rl p q c, .int a] μ = .ok (.bl true) μ := by
  simp [f_is_start, d_is_start, runF_, isnum_eq, next_eq h, h1, h2]
theorem check_eq {p q c a : Int} {μ : Mu} (h : Rk p q c) (h1 : 1 ≤ a) (h2 : a < nxt p q c a) : f_check_start [rl p q c, .int a] μ = .ok .non μ := by
  simp [f_check_start, d_check_start, runF_, start_eq h h1 h2]

end GB
set_option Elab.async false
set_option exponentiation.threshold 20000
set_option linter.all false
set_option maxRecDepth 100000
set_option maxHeartbeats 4000000
namespace GB
open PySem PySem.Spec PyProof.Rows L2
end GB
set_option Elab.async false
set_option exponentiation.threshold 20000
set_option linter.all false
set_option maxRecDepth 100000
set_option maxHeartbeats 2000000
namespace GB
open PySem L2
theorem blocks_eq {p q c a : Int} {μ : Mu} (h : Rk p q c) (h1 : 1 ≤ a) (h2 : a < nxt p q c a) {n : Nat} (hn : n < 10000000) : f_blocks_of [rl p q c, .int a, .int n] μ = .ok (.tup (blks p q c a n)) (μ ++ [.lst (blks p q c a n)]) := by
  unfold f_blocks_of d_blocks_of
  rw [runF_]
  simp [check_eq h h1 h2]
  rw [rng1_ok (by omega) (by omega)]
  simp
  generalize e : dForN (jRng 0 n) _ _ _ _ _ _ = o
  have key : ∃ x4 x5 x6 x7, o = .nx [some (rl p q c), some (.int a), some (.int n), some (.ref μ.length), x4, x5, x6, x7] (μ ++ [.lst (blks p q c a n)]) := by
    rw [← e]
    refine for_rng (n := n) (Inv := fun i ρ μ' => ∃ x4 x5 x6 x7, ρ = [some (rl p q c), some (.int a), some (.int n), some (.ref μ.length), x4, x5, x6, x7] ∧ μ' = μ ++ [.lst (blks p q c a i)])
      (Q := fun o => ∃ x4 x5 x6 x7, o = .nx [some (rl p q c), some (.int a), some (.int n), some (.ref μ.length), x4, x5, x6, x7] (μ ++ [.lst (blks p q c a n)])) (by unfold lid; omega) ⟨_, _, _, _, rfl, rfl⟩ ?_ ?_
    · rintro ρ μ' ⟨x4, x5, x6, x7, rfl, rfl⟩
      exact ⟨_, _, _, _, rfl⟩
    · rintro i ρ μ' hi ⟨x4, x5, x6, x7, rfl, rfl⟩
      refine ⟨_, _, rfl, ?_⟩
      have g := getL_last (μ := μ) (acc := blks p q c a i)
      have gm := getM_last (μ := μ) (acc := blks p q c a i)
      have hl : (blks p q c a i).length < 16777216 := by rw [blks_len]; omega
      by_cases hh : nxt p q c (blk p q c a i).2 ≤ (blk p q c a i).1 <;> simp [fIx_ref g (blks_last p q c a i), pairV, next_eq h, methL_ok g, fAppend_ok gm hl, set_last, blks_succ, blk, hh]
  obtain ⟨x4, x5, x6, x7, rfl⟩ := key
  simp [fTuple_r, getL_last]
def blocks_up := by3_up (tr := false) (g := f_blocks_of) (f := blocksV) (fun p q c a n h => ⟨blks_noref p q c a n, _, blocks_eq (μ := []) h.r h.a1 h.st (by have := h.n1; omega)⟩)

end GB
set_option Elab.async false
set_option exponentiation.threshold 20000
set_option linter.all false
set_option maxRecDepth 100000
set_option maxHeartbeats 4000000
namespace GB
open PySem PySem.Spec PyProof.Rows L2
end GB
set_option Elab.async false
set_option exponentiation.threshold 20000
set_option linter.all false
set_option maxRecDepth 100000
set_option maxHeartbeats 2000000
namespace GB
open PySem L2
theorem places_eq {p q c a : Int} {μ : Mu} {n : Nat} (h : OkS p q c a n) : f_places [rl p q c, .int a, .int n] μ = .ok (placesV p q c a n) μ := by
  have e1 := g3 (tr := false) (f := blocksV) (μ := μ) h
  have hn := h.n1
  simp [f_places, d_places, runF_, e1, blocksV, blks]
  rw [lc_ty (fun k : Nat => .int (blk p q c a k).1) (by rw [List.length_range]; omega) (fun k _ => ⟨_, rfl, ?_⟩)]
  · simp [placesV]
  · simp [wipeP, pairV]
end GB
set_option Elab.async false
set_option exponentiation.threshold 20000
set_option linter.all false
set_option maxRecDepth 100000
set_option maxHeartbeats 4000000
namespace GB
open PySem PySem.Spec PyProof.Rows L2
end GB
set_option Elab.async false
set_option exponentiation.threshold 20000
set_option linter.all false
set_option maxRecDepth 100000
set_option maxHeartbeats 2000000
namespace GB
open PySem L2
theorem sizes_eq {p q c a : Int} {μ : Mu} (h : Rk p q c) (h1 : 1 ≤ a) (h2 : a < nxt p q c a) {n : Nat} (hn : n < 10000000) : f_sizes [rl p q c, .int a, .int n] μ = .ok (.tup (szs p q c a n)) (μ ++ [.lst (szs p q c a n)]) := by
  unfold f_sizes d_sizes
  rw [runF_]
  simp [check_eq h h1 h2]
  rw [rng1_ok (by omega) (by omega)]
  simp
  generalize e : dForN (jRng 0 n) _ _ _ _ _ _ = o
  have key : ∃ x4, o = .nx [some (rl p q c), some (.int a), some (.int n), some (.ref μ.length), x4] (μ ++ [.lst (szs p q c a n)]) := by
    rw [← e]
    refine for_rng (n := n) (Inv := fun i ρ μ' => ∃ x4, ρ = [some (rl p q c), some (.int a), some (.int n), some (.ref μ.length), x4] ∧ μ' = μ ++ [.lst (szs p q c a i)])
      (Q := fun o => ∃ x4, o = .nx [some (rl p q c), some (.int a), some (.int n), some (.ref μ.length), x4] (μ ++ [.lst (szs p q c a n)])) (by unfold lid; omega) ⟨_, rfl, rfl⟩ ?_ ?_
    · rintro ρ μ' ⟨x4, rfl, rfl⟩
      exact ⟨_, rfl⟩
    · rintro i ρ μ' hi ⟨x4, rfl, rfl⟩
      refine ⟨_, _, rfl, ?_⟩
      have g := getL_last (μ := μ) (acc := szs p q c a i)
      have gm := getM_last (μ := μ) (acc := szs p q c a i)
      have hl : (szs p q c a i).length < 16777216 := by rw [szs_len]; omega
      simp [fIx_ref g (szs_last p q c a i), next_eq h, methL_ok g, fAppend_ok gm hl, set_last, szs_S, sz]
  obtain ⟨x4, rfl⟩ := key
  simp [fTuple_r, getL_last]
def sizes_up := by3_up (tr := false) (g := f_sizes) (f := sizesV) (fun p q c a n h => ⟨szs_noref p q c a n, _, sizes_eq (μ := []) h.r h.a1 h.st (by have := h.n1; omega)⟩)

end GB
set_option Elab.async false
set_option exponentiation.threshold 20000
set_option linter.all false
set_option maxRecDepth 100000
set_option maxHeartbeats 4000000
namespace GB
open PySem PySem.Spec PyProof.Rows L2
end GB
set_option Elab.async false
set_option exponentiation.threshold 20000
set_option linter.all false
set_option maxRecDepth 100000
set_option maxHeartbeats 2000000
namespace GB
open PySem L2

end GB
set_option Elab.async false
set_option exponentiation.threshold 20000
set_option linter.all false
set_option maxRecDepth 100000
set_option maxHeartbeats 4000000
namespace GB
open PySem PySem.Spec PyProof.Rows L2
end GB
set_option Elab.async false
set_option exponentiation.threshold 20000
set_option linter.all false
set_option maxRecDepth 100000
set_option maxHeartbeats 2000000
namespace GB
open PySem L2
theorem tupled_int {n : Nat} {i : Int} {μ : Mu} : f_tupled (n + 1) [.int i] μ = .ok (.int i) μ := by
  simp [f_tupled, d_tupled, runF_, fIsiL, tyN, isTyL, isTy]
theorem tupled_rl {n : Nat} {p q c : Int} {μ : Mu} : f_tupled (n + 2) [rl p q c] μ = .ok (rl p q c) μ := by
  have hO : [PV.int p, PV.int q, PV.int c] = [p, q, c].map PV.int := rfl
  rw [show f_tupled (n + 2) = runF 2 (d_tupled (f_tupled (n + 1))) from rfl]
  unfold d_tupled
  rw [runF_]
  simp [fIsiL, tyN, isTyL, isTy]
  rw [hO, lc_ty (fun i : Int => .int i) (by simp) (fun k hk => ⟨_, rfl, ?_⟩)]
  · simp
  · simp [wipeP, tupled_int]

end GB
set_option Elab.async false
set_option exponentiation.threshold 20000
set_option linter.all false
set_option maxRecDepth 100000
set_option maxHeartbeats 4000000
namespace GB
open PySem PySem.Spec PyProof.Rows L2
end GB
set_option Elab.async false
set_option exponentiation.threshold 20000
set_option linter.all false
set_option maxRecDepth 100000
set_option maxHeartbeats 2000000
namespace GB
open PySem L2
theorem tupled_pairV {n : Nat} {b : Int × Int} {μ : Mu} : f_tupled (n + 2) [pairV b] μ = .ok (pairV b) μ := by
  rw [show f_tupled (n + 2) = runF 2 (d_tupled (f_tupled (n + 1))) from rfl]
  unfold d_tupled pairV
  rw [runF_]
  simp [-dLc_, fIsiL, tyN, isTyL, isTy]
  rw [dLc_]
  simp [-dLc_]
  rw [lc_tup (by simp)]
  simp [wipeP, tupled_int]
theorem tupled_ps {n : Nat} {bs : St2} {x : PV} {μ : Mu} (hx : x = .tup (bs.map pairV) ∨ x = .lst (bs.map pairV)) (hl : bs.length ≤ 1000000) : f_tupled (n + 3) [x] μ = .ok (.tup (bs.map pairV)) μ := by
  rw [show f_tupled (n + 3) = runF 2 (d_tupled (f_tupled (n + 2))) from rfl]
  unfold d_tupled
  rw [runF_]
  rcases hx with rfl | rfl
  · simp [-dLc_, fIsiL, tyN, isTyL, isTy]
    rw [dLc_]
    simp [-dLc_]
    rw [lc_ty (fun b : Int × Int => pairV b) (by omega) (fun b _ => ⟨_, rfl, by simp [wipeP, tupled_pairV]⟩)]
    simp
  · simp [-dLc_, fIsiL, tyN, isTyL, isTy]
    rw [dLc_]
    simp [-dLc_]
    rw [lc_ty (fun b : Int × Int => pairV b) (by omega) (fun b _ => ⟨_, rfl, by simp [wipeP, tupled_pairV]⟩)]
    simp
theorem endof_eq {bs : St2} {μ : Mu} : f_end_of [.tup (bs.map pairV)] μ = .ok (.int (endF 0 bs)) μ := by
  have hend : ∀ (h : Int) (r : St2) (x : Int × Int), endF h (r ++ [x]) = x.1 + x.2 := by
    intro h r
    induction r generalizing h with
    | nil => intro x; rfl
    | cons y r ih => intro x; exact ih _ x
  unfold f_end_of d_end_of
  rw [runF_]
  rcases List.eq_nil_or_concat bs with rfl | ⟨r, x, rfl⟩
  · simp [endF]
  · rw [List.concat_eq_append, hend]
    have hla : atI ((r ++ [x]).map pairV) (-1) = some (pairV x) := by
      rw [List.map_append]
      exact atI_last _ _
    have hl : (0 : Int) < (r.length : Int) + 1 := by omega
    rw [List.map_append] at hla
    simp only [List.map_cons, List.map_nil] at hla
    simp [hl, fIx_t, hla]
    simp [pairV]
theorem lowest_eq {bs : St2} {x : PV} {s : Int} {μ : Mu} (hx : x = .tup (bs.map pairV) ∨ x = .lst (bs.map pairV)) (hl : bs.length ≤ 1000000) : f_lowest_place [x, .int s] μ = .ok (.int (lowF 0 bs s)) μ := by
  unfold f_lowest_place d_lowest_place
  rw [runF_]
  have go : ∀ o : O, o = dForN (jTup (bs.map pairV)) (gT 2 (gsC (gN 3) (gsC (gN 4) (gsN)))) (dSeq (dIfS (asB (dOp fGe (dOp fSub (dVar 3) (dVar 2)) (dVar 1))) (dRet (dVar 2)) (dSkip)) (dAsg (dOp fAdd (dVar 3) (dVar 4)) (gN 2))) lid 0 [some x, some (.int s), some (.int 0), none, none] μ →
      (∃ x3 x4, o = .nx [some x, some (.int s), some (.int (lowF 0 bs s)), x3, x4] μ) ∨ o = .rt (.int (lowF 0 bs s)) μ := by
    intro o e
    rw [e]
    refine for_items (items := bs.map pairV) (Inv := fun i ρ μ' => μ' = μ ∧ ∃ h x3 x4, ρ = [some x, some (.int s), some (.int h), x3, x4] ∧ lowF 0 bs s = lowF h (bs.drop i) s)
      (Q := fun o => (∃ x3 x4, o = .nx [some x, some (.int s), some (.int (lowF 0 bs s)), x3, x4] μ) ∨ o = .rt (.int (lowF 0 bs s)) μ) ?_ ?_ ?_ ?_ ?_
    · rintro i ρ μ' _
      rfl
    · rw [List.length_map]; unfold lid; omega
    · exact ⟨rfl, 0, _, _, rfl, rfl⟩
    · rintro ρ μ' ⟨rfl, h, x3, x4, rfl, hh⟩
      rw [List.length_map, List.drop_length] at hh
      rw [hh]
      exact .inl ⟨_, _, rfl⟩
    · rintro i y ρ μ' hy ⟨rfl, h, x3, x4, rfl, hh⟩
      rw [List.getElem?_map] at hy
      cases hg : bs[i]? with
      | none => rw [hg] at hy; cases hy
      | some b =>
        rw [hg] at hy
        cases hy
        obtain ⟨hi, hb⟩ := List.getElem?_eq_some_iff.mp hg
        rw [List.drop_eq_getElem_cons hi, hb] at hh
        refine ⟨[some x, some (.int s), some (.int h), some (.int b.1), some (.int b.2)], μ', by simp [pairV], ?_⟩
        by_cases hc : s ≤ b.1 - h
        · have e2 : lowF 0 bs s = h := by rw [hh]; unfold lowF; rw [if_pos hc]
          simp [hc, e2]
        · have e2 : lowF 0 bs s = lowF (b.1 + b.2) (bs.drop (i + 1)) s := by
            rw [hh]
            show (if s ≤ b.1 - h then h else lowF (b.1 + b.2) (bs.drop (i + 1)) s) = _
            rw [if_neg hc]
          simp [hc]
          exact e2
  rcases hx with rfl | rfl
  · simp
    rcases go _ rfl with ⟨x3, x4, e⟩ | e
    · rw [e]; simp
    · rw [e]; simp
  · simp
    rcases go _ rfl with ⟨x3, x4, e⟩ | e
    · rw [e]; simp
    · rw [e]; simp
theorem beside_eq {bs : St2} {b : Int × Int} {s : Int} {μ : Mu} (hl : bs.length ≤ 100000) : f_lowest_beside [.tup (bs.map pairV), pairV b, .int s] μ = .ok (.int (lowF 0 (tkn bs b) s)) μ := by
  have t1 : f_tupled 8 [.tup (bs.map pairV)] μ = .ok (.tup (bs.map pairV)) μ := tupled_ps (n := 5) (.inl rfl) (by omega)
  have t2 : f_tupled 8 [pairV b] μ = .ok (pairV b) μ := tupled_pairV (n := 6)
  have hs : fSortedX [.lst (bs.map pairV ++ [pairV b])] μ = .ok (.lst ((tkn bs b).map pairV)) μ := by
    have := fSortedX_lst (ps := bs ++ [b]) (μ := μ)
    rwa [List.map_append] at this
  have hlen : (tkn bs b).length = bs.length + 1 := by unfold tkn; rw [(sortL_perm _).length_eq]; simp
  have hlow := lowest_eq (bs := tkn bs b) (s := s) (μ := μ) (.inr rfl) (by omega)
  have hll : bs.length ≤ 16777215 := by omega
  unfold f_lowest_beside d_lowest_beside
  rw [runF_]
  simp [dStar, t1, t2, hs, hlow, hll]
theorem holes_eq {bs : St2} {x : PV} (hx : x = .tup (bs.map pairV) ∨ x = .lst (bs.map pairV)) (hl : bs.length ≤ 100000) : ∃ μ', f_holes [x] [] = .ok (.tup ((holF 0 bs).map pairV)) μ' := by
  have go : ∀ o : O, o = dForN (jTup (bs.map pairV)) (gT 2 (gsC (gN 3) (gsC (gN 4) (gsN)))) (dSeq (dIfS (asB (dOp fGt (dVar 3) (dVar 2))) (dDrop (dMeth fAppend (dVar 1) (dCons (dTup (dCons (dVar 2) (dCons (dOp fSub (dVar 3) (dVar 2)) (dNil)))) (dNil)))) (dSkip)) (dAsg (dOp fAdd (dVar 3) (dVar 4)) (gN 2))) lid 0 [some x, some (.ref 0), some (.int 0), none, none] [.lst []] →
      ∃ x2 x3 x4, o = .nx [some x, some (.ref 0), x2, x3, x4] [.lst ((holF 0 bs).map pairV)] := by
    intro o e
    rw [e]
    refine for_items (items := bs.map pairV) (Inv := fun i ρ μ' => ∃ (h : Int) (acc : St2) (x3 x4 : Option PV), ρ = [some x, some (.ref 0), some (.int h), x3, x4] ∧ μ' = [.lst (acc.map pairV)] ∧ acc.length ≤ i ∧ holF 0 bs = acc ++ holF h (bs.drop i))
      (Q := fun o => ∃ x2 x3 x4, o = .nx [some x, some (.ref 0), x2, x3, x4] [.lst ((holF 0 bs).map pairV)]) ?_ ?_ ?_ ?_ ?_
    · rintro i ρ μ' _
      rfl
    · rw [List.length_map]; unfold lid; omega
    · exact ⟨0, [], _, _, rfl, rfl, Nat.le_refl _, rfl⟩
    · rintro ρ μ' ⟨h, acc, x3, x4, rfl, rfl, _, hh⟩
      rw [List.length_map, List.drop_length] at hh
      have hz : acc ++ holF h [] = acc := List.append_nil acc
      rw [hh, hz]
      exact ⟨_, _, _, rfl⟩
    · rintro i y ρ μ' hy ⟨h, acc, x3, x4, rfl, rfl, hal, hh⟩
      rw [List.getElem?_map] at hy
      cases hg : bs[i]? with
      | none => rw [hg] at hy; cases hy
      | some b =>
        rw [hg] at hy
        cases hy
        obtain ⟨hi, hb⟩ := List.getElem?_eq_some_iff.mp hg
        rw [List.drop_eq_getElem_cons hi, hb] at hh
        have hh2 : holF 0 bs = acc ++ ((if h < b.1 then [(h, b.1 - h)] else []) ++ holF (b.1 + b.2) (bs.drop (i + 1))) := hh
        refine ⟨[some x, some (.ref 0), some (.int h), some (.int b.1), some (.int b.2)], [.lst (acc.map pairV)], by simp [pairV], ?_⟩
        by_cases hc : h < b.1
        · rw [if_pos hc] at hh2
          have hlen : acc.length < 16777216 := by omega
          simp [hc, methL_, fAppend_, hlen]
          refine ⟨acc ++ [(h, b.1 - h)], by simp [pairV], by simp; omega, by rw [hh2]; simp⟩
        · rw [if_neg hc] at hh2
          simp [hc]
          exact ⟨acc, rfl, by omega, by rw [hh2]; simp⟩
  unfold f_holes d_holes
  rw [runF_]
  rcases hx with rfl | rfl
  · simp
    obtain ⟨x2, x3, x4, e⟩ := go _ rfl
    rw [e]
    exact ⟨_, by simp [fTuple_r]; rfl⟩
  · simp
    obtain ⟨x2, x3, x4, e⟩ := go _ rfl
    rw [e]
    exact ⟨_, by simp [fTuple_r]; rfl⟩
theorem holes_up (as : List PV) (v : PV) (_ : as.length = 1) (hv : holesS as = some v) : Ends false f_holes as v := by
  unfold holesS at hv
  split at hv
  · rename_i x _
    cases hx : ps1 x with
    | none => rw [hx] at hv; cases hv
    | some bs =>
      rw [hx] at hv
      simp only [Option.bind_some] at hv
      split at hv
      · rename_i hl
        cases hv
        exact ⟨norefL_map fun _ => rfl, holes_eq (ps1_inv hx) hl⟩
      · cases hv
  · cases hv
theorem ps1_tup {bs : St2} : ps1 (.tup (bs.map pairV)) = some bs := allPr_map bs
theorem ps1_lst {bs : St2} : ps1 (.lst (bs.map pairV)) = some bs := allPr_map bs
theorem nrf_tup {bs : St2} : noref (.tup (bs.map pairV)) = true := norefL_map fun _ => rfl
theorem nrf_lst {bs : St2} : noref (.lst (bs.map pairV)) = true := norefL_map fun _ => rfl
theorem gholes {bs : St2} {μ : Mu} (hl : bs.length ≤ 100000) : gZ false holesS [.tup (bs.map pairV)] μ = .ok (.tup ((holF 0 bs).map pairV)) μ := gZ_ok (by show (noref (.tup (bs.map pairV)) && true) = true; rw [nrf_tup]; rfl) (by
  show (ps1 (.tup (bs.map pairV))).bind _ = _
  rw [ps1_tup]
  simp only [Option.bind_some]
  rw [if_pos hl])
theorem plain_eq {bs : St2} {x : PV} (hx : x = .tup (bs.map pairV) ∨ x = .lst (bs.map pairV)) (hl : bs.length ≤ 100000) : ∃ μ', f_plain_stays [x] [] = .ok (.tup ((plainT bs).map pairV)) μ' := by
  have ht : ∀ μ, f_tupled 8 [x] μ = .ok (.tup (bs.map pairV)) μ := fun μ => tupled_ps (n := 5) hx (by omega)
  unfold f_plain_stays d_plain_stays
  rw [runF_]
  simp [ht]
  generalize e : dForN _ _ _ _ _ _ _ = o
  have key : ∃ x2 x3 x4, o = .nx [some x, some (.ref 0), x2, x3, x4] [.lst ((plainT bs).map pairV)] := by
    rw [← e]
    refine for_items (items := bs.map pairV) (Inv := fun i ρ μ' => ∃ (acc : St2) (x2 x3 x4 : Option PV), ρ = [some x, some (.ref 0), x2, x3, x4] ∧ μ' = [.lst (acc.map pairV)] ∧ acc.length ≤ i ∧ ((i = 0 ∧ acc = []) ∨ ∃ done cur, acc = done ++ [cur] ∧ plainT bs = done ++ plainG cur (bs.drop i)))
      (Q := fun o => ∃ x2 x3 x4, o = .nx [some x, some (.ref 0), x2, x3, x4] [.lst ((plainT bs).map pairV)]) ?_ ?_ ?_ ?_ ?_
    · rintro i ρ μ' _
      rfl
    · rw [List.length_map]; unfold lid; omega
    · exact ⟨[], _, _, _, rfl, rfl, Nat.le_refl _, .inl ⟨rfl, rfl⟩⟩
    · rintro ρ μ' ⟨acc, x2, x3, x4, rfl, rfl, _, hh⟩
      rw [List.length_map] at hh
      rcases hh with ⟨h0, rfl⟩ | ⟨done, cur, rfl, hh⟩
      · have : bs = [] := List.eq_nil_of_length_eq_zero h0
        subst this
        exact ⟨_, _, _, rfl⟩
      · rw [List.drop_length] at hh
        rw [hh]
        exact ⟨_, _, _, rfl⟩
    · rintro i y ρ μ' hy ⟨acc, x2, x3, x4, rfl, rfl, hal, hh⟩
      rw [List.getElem?_map] at hy
      cases hg : bs[i]? with
      | none => rw [hg] at hy; cases hy
      | some b =>
        rw [hg] at hy
        cases hy
        obtain ⟨hi, hb⟩ := List.getElem?_eq_some_iff.mp hg
        refine ⟨[some x, some (.ref 0), some (.int b.1), some (.int b.2), x4], [.lst (acc.map pairV)], by simp [pairV], ?_⟩
        have hlen : acc.length < 16777216 := by omega
        rcases hh with ⟨rfl, rfl⟩ | ⟨done, cur, rfl, hh⟩
        · refine turn_nx (ρ := [some x, some (.ref 0), some (.int b.1), some (.int b.2), x4]) (μ := [.lst [pairV b]]) (by simp [fLen_r, methL_, fAppend_, pairV]) ⟨[b], _, _, _, rfl, rfl, by simp, .inr ⟨[], b, rfl, ?_⟩⟩
          have : bs = b :: bs.drop 1 := by
            have := List.drop_eq_getElem_cons hi
            rw [hb] at this
            simpa using this
          have e2 : plainT (b :: bs.drop 1) = plainG b (bs.drop 1) := rfl
          rw [← this] at e2
          exact e2
        · rw [List.drop_eq_getElem_cons hi, hb] at hh
          have hla : atI ((done ++ [cur]).map pairV) (-1) = some (.tup [.int cur.1, .int cur.2]) := by
            rw [List.map_append]
            exact atI_last _ _
          have hll : ((done ++ [cur]).map pairV).length = done.length + 1 := by simp
          have hp : (0 : Int) < (done.length : Int) + 1 := by omega
          have hh2 : plainT bs = done ++ (if b.1 ≤ cur.1 + cur.2 then plainG (cur.1, (if b.1 + b.2 > cur.1 + cur.2 then b.1 + b.2 else cur.1 + cur.2) - cur.1) (bs.drop (i + 1)) else cur :: plainG b (bs.drop (i + 1))) := hh
          have hix : ixN ((done ++ [cur]).map pairV).length (-1) = some done.length := by
            rw [hll]
            unfold ixN
            rw [if_neg (by decide), if_pos (by omega)]
            congr 1
            omega
          have hset : ∀ z : Int × Int, ((done ++ [cur]).map pairV).set done.length (pairV z) = (done ++ [z]).map pairV := fun z => by
            rw [List.map_append, List.map_append, List.set_append_right _ _ (by simp), List.length_map, Nat.sub_self]
            rfl
          by_cases hc : b.1 ≤ cur.1 + cur.2
          · rw [if_pos hc] at hh2
            generalize hZ : (if b.1 + b.2 > cur.1 + cur.2 then b.1 + b.2 else cur.1 + cur.2) - cur.1 = Z at *
            have hs2 := hset (cur.1, Z)
            generalize hA : (done ++ [cur]).map pairV = A at *
            refine turn_nx (ρ := [some x, some (.ref 0), some (.int b.1), some (.int b.2), some (.int cur.1)]) (μ := [.lst ((done ++ [(cur.1, Z)]).map pairV)]) ?_ ⟨done ++ [(cur.1, Z)], _, _, _, rfl, rfl, by simp at hal ⊢; omega, .inr ⟨done, (cur.1, Z), rfl, hh2⟩⟩
            simp only [gt_iff_lt] at hZ
            simp [fLen_r, hll, hp, fIx_r, hla, hc, fIx_tup0]
            rw [hZ]
            have hss := subSet_ok (ρ := [some x, some (.ref 0), some (.int b.1), some (.int b.2), some (.int cur.1)]) (l := 0) (xs := A) (k := -1) (j := done.length) (v := .tup [.int cur.1, .int Z]) (μ := [.lst A]) rfl hix
            rw [hss, show A.set done.length (.tup [.int cur.1, .int Z]) = (done ++ [(cur.1, Z)]).map pairV from hs2, List.map_append]
            rfl
          · rw [if_neg hc] at hh2
            generalize hA : (done ++ [cur]).map pairV = A at *
            refine turn_nx (ρ := [some x, some (.ref 0), some (.int b.1), some (.int b.2), x4]) (μ := [.lst ((done ++ [cur] ++ [b]).map pairV)]) ?_ ⟨done ++ [cur] ++ [b], _, _, _, rfl, rfl, by simp at hal ⊢; omega, .inr ⟨done ++ [cur], b, rfl, by rw [hh2]; simp⟩⟩
            have hll2 : A.length < 16777216 := by rw [hll]; simp at hlen; omega
            have hmm : (done ++ [cur] ++ [b]).map pairV = A ++ [pairV b] := by rw [List.map_append, hA]; rfl
            rw [hmm]
            have hdl : done.length + 1 < 16777216 := by rw [← hll]; exact hll2
            simp [fLen_r, hll, hp, fIx_r, hla, hc, methL_, fAppend_, hll2, hdl, pairV]
  obtain ⟨x2, x3, x4, rfl⟩ := key
  exact ⟨_, by simp [fTuple_r]; rfl⟩

end GB
set_option Elab.async false
set_option exponentiation.threshold 20000
set_option linter.all false
set_option maxRecDepth 100000
set_option maxHeartbeats 4000000
namespace GB
open PySem PySem.Spec PyProof.Rows L2
end GB
set_option Elab.async false
set_option exponentiation.threshold 20000
set_option linter.all false
set_option maxRecDepth 100000
set_option maxHeartbeats 2000000
namespace GB
open PySem L2
theorem plain_up (as : List PV) (v : PV) (_ : as.length = 1) (hv : plainS as = some v) : Ends false f_plain_stays as v := by
  unfold plainS at hv
  split at hv
  · rename_i x _
    cases hx : ps1 x with
    | none => rw [hx] at hv; cases hv
    | some bs =>
      rw [hx] at hv
      simp only [Option.bind_some] at hv
      split at hv
      · rename_i hl
        cases hv
        exact ⟨norefL_map fun _ => rfl, plain_eq (ps1_inv hx) hl⟩
      · cases hv
  · cases hv
def rowX (xs : St2) (p q c a : Int) (i : Nat) : St2 := (List.range i).map fun k => (rowP xs p q c a k, sz p q c a k)
theorem rowX_S (xs : St2) (p q c a : Int) (i : Nat) : rowX xs p q c a (i + 1) = rowX xs p q c a i ++ [(rowP xs p q c a i, sz p q c a i)] := by
  unfold rowX; rw [List.range_succ, List.map_append]; rfl
theorem rowX_len (xs : St2) (p q c a : Int) (i : Nat) : (rowX xs p q c a i).length = i := by unfold rowX; simp
theorem rowsL_X (xs : St2) (p q c a : Int) (n : Nat) : rowsL xs p q c a n = (rowX xs p q c a (n + 1)).map pairV := by
  unfold rowsL rowX; rw [List.map_map]; rfl
theorem cut_last (xs : List PV) (y : PV) : cutP (xs ++ [y]) (some (-1)) none = [y] := by
  unfold cutP
  have e : HT.sIx (xs ++ [y]).length 0 (some (-1)) = xs.length := by
    have e2 : HT.sIx (xs ++ [y]).length 0 (some (-1)) = ((-1 : Int) + ((xs ++ [y]).length : Int)).toNat := rfl
    rw [e2, List.length_append, List.length_singleton]
    omega
  rw [e, HT.sIx_none]
  simp
theorem cut_last0 : cutP [] (some (-1)) none = [] := rfl
theorem lowS_eq {bs : St2} {s : Int} {μ : Mu} (hl : bs.length ≤ 1000000) : f_lowest_place [.lst (bs.map pairV), .int s] μ = .ok (.int (lowF 0 bs s)) μ := lowest_eq (.inr rfl) hl
theorem srun_eq {bs : St2} {x : PV} {p q c a : Int} {n : Nat} (hx : x = .tup (bs.map pairV) ∨ x = .lst (bs.map pairV)) (hl : bs.length ≤ 1000) (ha : Asc 0 bs) (h : OkS p q c a n) :
    ∃ μ', f_stays_run [rl p q c, x, .int a, .int n] [] = .ok (.tup (rowsL bs p q c a n)) μ' := by
  have hn := h.n1
  have ht : ∀ μ, f_tupled 8 [x] μ = .ok (.tup (bs.map pairV)) μ := fun μ => tupled_ps (n := 5) hx (by omega)
  have e1 : ∀ μ, gZ false (by3 sizesV) [rl p q c, .int a, .int n] μ = .ok (.tup (szs p q c a n)) μ := fun μ => g3 (tr := false) (f := sizesV) h
  unfold f_stays_run d_stays_run
  rw [runF_]
  simp [e1]
  generalize e : dForN _ _ _ _ _ _ _ = o
  have key : ∃ x5 x6, o = .nx [some (rl p q c), some x, some (.int a), some (.int n), some (.ref 0), x5, x6] [.lst ((rowX bs p q c a (n + 1)).map pairV)] := by
    rw [← e]
    refine for_items (items := szs p q c a n) (Inv := fun i ρ μ' => i ≤ n + 1 ∧ ∃ x5 x6, ρ = [some (rl p q c), some x, some (.int a), some (.int n), some (.ref 0), x5, x6] ∧ μ' = [.lst ((rowX bs p q c a i).map pairV)])
      (Q := fun o => ∃ x5 x6, o = .nx [some (rl p q c), some x, some (.int a), some (.int n), some (.ref 0), x5, x6] [.lst ((rowX bs p q c a (n + 1)).map pairV)]) ?_ ?_ ?_ ?_ ?_
    · rintro i ρ μ' _
      rfl
    · rw [szs_len]; unfold lid; omega
    · exact ⟨by omega, _, _, rfl, rfl⟩
    · rintro ρ μ' ⟨_, x5, x6, rfl, rfl⟩
      rw [szs_len]
      exact ⟨_, _, rfl⟩
    · rintro i y ρ μ' hy ⟨hi, x5, x6, rfl, rfl⟩
      have hlt : i < n + 1 := by
        have := (List.getElem?_eq_some_iff.mp hy).1
        rwa [szs_len] at this
      have hy2 : y = .int (sz p q c a i) := by
        have : (szs p q c a n)[i]? = some (.int (sz p q c a i)) := by
          unfold szs
          rw [List.getElem?_map, List.getElem?_range hlt]; rfl
        rw [this] at hy
        exact (Option.some.inj hy).symm
      subst hy2
      refine ⟨[some (rl p q c), some x, some (.int a), some (.int n), some (.ref 0), some (.int (sz p q c a i)), x6], [.lst ((rowX bs p q c a i).map pairV)], by simp, ?_⟩
      have hlen : ((rowX bs p q c a i).map pairV).length < 16777216 := by rw [List.length_map, rowX_len]; omega
      have hlen2 : ((rowX bs p q c a i).map pairV).length ≤ 100001 := by rw [List.length_map, rowX_len]; omega
      have hcut : fSortedX [.lst (bs.map pairV ++ cutP ((rowX bs p q c a i).map pairV) (some (-1)) none)] [.lst ((rowX bs p q c a i).map pairV)] = .ok (.lst ((match i with | 0 => bs | k + 1 => tkn bs (rowP bs p q c a k, sz p q c a k)).map pairV)) [.lst ((rowX bs p q c a i).map pairV)] := by
        cases i with
        | zero =>
          show fSortedX [.lst (bs.map pairV ++ [])] _ = _
          rw [List.append_nil, fSortedX_lst, sortL_id ha]
        | succ k =>
          rw [rowX_S, List.map_append, List.map_cons, List.map_nil, cut_last, ← List.map_singleton (f := pairV), ← List.map_append, fSortedX_lst]
          rfl
      have hlow : f_lowest_place [.lst ((match i with | 0 => bs | k + 1 => tkn bs (rowP bs p q c a k, sz p q c a k)).map pairV), .int (sz p q c a i)] [.lst ((rowX bs p q c a i).map pairV)] = .ok (.int (rowP bs p q c a i)) [.lst ((rowX bs p q c a i).map pairV)] := by
        cases i with
        | zero => exact lowS_eq (bs := bs) (by omega)
        | succ k =>
          refine lowS_eq ?_
          unfold tkn
          rw [(sortL_perm _).length_eq]
          simp; omega
      refine turn_nx (ρ := [some (rl p q c), some x, some (.int a), some (.int n), some (.ref 0), some (.int (sz p q c a i)), some (.lst (bs.map pairV ++ cutP ((rowX bs p q c a i).map pairV) (some (-1)) none))]) (μ := [.lst ((rowX bs p q c a (i + 1)).map pairV)]) ?_ ⟨by omega, _, _, rfl, rfl⟩
      rw [rowX_S, List.map_append, List.map_singleton]
      generalize hA : (rowX bs p q c a i).map pairV = A at *
      have hg0 : getL [Ob.lst A] 0 = some A := rfl
      have hbl : bs.length ≤ 16777215 := by omega
      have hcl : bs.length + (cutP A (some (-1)) none).length ≤ 16777216 := by
        unfold cutP
        rw [List.length_take, List.length_drop]
        omega
      simp [dStar, ht, fSl_ref hg0, hcut, hlow, methL_, fAppend_, hlen, pairV, hbl, hcl]
  obtain ⟨x5, x6, rfl⟩ := key
  rw [rowsL_X]
  exact ⟨_, by simp [fTuple_r]; rfl⟩

end GB
set_option Elab.async false
set_option exponentiation.threshold 20000
set_option linter.all false
set_option maxRecDepth 100000
set_option maxHeartbeats 4000000
namespace GB
open PySem PySem.Spec PyProof.Rows L2
end GB
set_option Elab.async false
set_option exponentiation.threshold 20000
set_option linter.all false
set_option maxRecDepth 100000
set_option maxHeartbeats 2000000
namespace GB
open PySem L2
theorem srun_up (as : List PV) (v : PV) (_ : as.length = 4) (hv : srunS as = some v) : Ends false f_stays_run as v := by
  unfold srunS at hv
  split at hv
  · rename_i p q c x a n _
    cases hx : ps1 x with
    | none => rw [hx] at hv; cases hv
    | some bs =>
      rw [hx] at hv
      simp only [Option.bind_some] at hv
      split at hv
      · rename_i hl
        cases hv
        rw [Bool.and_eq_true] at hl
        obtain ⟨h1, h2⟩ := hl
        unfold stO2 at h2
        rw [Bool.and_eq_true, decide_eq_true_eq, ascB_iff] at h2
        have hk := okS_of h1
        have h3 := hk.n0
        have e := srun_eq (n := n.toNat) (ps1_inv hx) h2.2 h2.1 (by rw [Int.toNat_of_nonneg h3]; exact hk)
        rw [Int.toNat_of_nonneg h3] at e
        exact ⟨norefL_map fun _ => rfl, e⟩
      · cases hv
  · cases hv
theorem gsrun {bs : St2} {p q c a : Int} {n : Nat} {μ : Mu} (hl : bs.length ≤ 1000) (ha : Asc 0 bs) (h : OkS p q c a n) : gZ false srunS [rl p q c, .tup (bs.map pairV), .int a, .int n] μ = .ok (.tup (rowsL bs p q c a n)) μ := gZ_ok (by
    show (noref (rl p q c) && (noref (.tup (bs.map pairV)) && true)) = true
    rw [nrf_tup]; rfl) (by
  show (ps1 (.tup (bs.map pairV))).bind _ = _
  rw [ps1_tup]
  simp only [Option.bind_some]
  have h2 : stO2 bs = true := by
    unfold stO2
    rw [Bool.and_eq_true, decide_eq_true_eq, ascB_iff]
    exact ⟨ha, hl⟩
  rw [h2, okS_mk h.r h.a1 h.st h.n0 h.n1]
  rfl)
theorem sz_gt {p q c a : Int} (h : Rk p q c) (h1 : 1 ≤ a) (h2 : a < nxt p q c a) : ∀ k : Nat, a + k ≤ sz p q c a k
  | 0 => by show a + 0 ≤ a; omega
  | k + 1 => by
    have ih := sz_gt h h1 h2 k
    have := (sz_ok h h1 h2 k).2
    show a + ((k + 1 : Nat) : Int) ≤ nxt p q c (sz p q c a k)
    omega
theorem sz_up {p q c a : Int} (h : Rk p q c) (h1 : 1 ≤ a) (h2 : a < nxt p q c a) {i j : Nat} (hij : i < j) : sz p q c a i < sz p q c a j := by
  induction hij with
  | refl => exact (sz_ok h h1 h2 i).2
  | step _ ih => exact Int.lt_trans ih (sz_ok h h1 h2 _).2
theorem stopK_eq {p q c a most : Int} {k : Nat} (h2 : most < sz p q c a k) : ∀ (f i : Nat), i ≤ k → k ≤ i + f → (∀ j, i ≤ j → j < k → sz p q c a j ≤ most) → stopK p q c a most f i = k
  | 0, i, h3, h4, _ => by show i = k; omega
  | f + 1, i, h3, h4, h5 => by
    unfold stopK
    by_cases hi : i = k
    · subst hi
      rw [if_neg (by omega)]
    · rw [if_pos (h5 i (Nat.le_refl _) (by omega))]
      exact stopK_eq h2 f (i + 1) (by omega) (by omega) fun j hj => h5 j (by omega)
theorem stK_eq {bs : St2} {p q c a : Int} (h : Rk p q c) (h1 : 1 ≤ a) (hst : a < nxt p q c a) {k : Nat} (h2 : mostH bs < sz p q c a k) (h3 : ∀ j, j < k → sz p q c a j ≤ mostH bs) : stK bs p q c a = k := by
  unfold stK
  refine stopK_eq h2 _ 0 (by omega) ?_ fun j _ hj => h3 j hj
  cases k with
  | zero => omega
  | succ k =>
    have := h3 k (by omega)
    have := sz_gt h h1 hst k
    omega
theorem stK_spec {bs : St2} {p q c a : Int} (h : Rk p q c) (h1 : 1 ≤ a) (hst : a < nxt p q c a) : mostH bs < sz p q c a (stK bs p q c a) ∧ ∀ j, j < stK bs p q c a → sz p q c a j ≤ mostH bs := by
  have ex : ∀ n : Nat, (∃ k, mostH bs < sz p q c a k ∧ ∀ j, j < k → sz p q c a j ≤ mostH bs) ∨ ∀ j, j < n → sz p q c a j ≤ mostH bs := fun n => by
    induction n with
    | zero => exact .inr fun j hj => absurd hj (Nat.not_lt_zero _)
    | succ n ih =>
      rcases ih with ih | ih
      · exact .inl ih
      · by_cases hn : sz p q c a n ≤ mostH bs
        · right
          intro j hj
          by_cases e : j = n
          · subst e; exact hn
          · exact ih j (by omega)
        · exact .inl ⟨n, by omega, ih⟩
  rcases ex ((mostH bs).toNat + 1) with ⟨k, k1, k2⟩ | z
  · rw [stK_eq h h1 hst k1 k2]
    exact ⟨k1, k2⟩
  · have := z (mostH bs).toNat (by omega)
    have := sz_gt h h1 hst (mostH bs).toNat
    omega
theorem endof_eq' {bs : St2} {x : PV} {μ : Mu} (hx : x = .tup (bs.map pairV) ∨ x = .lst (bs.map pairV)) : f_end_of [x] μ = .ok (.int (endF 0 bs)) μ := by
  rcases hx with rfl | rfl
  · exact endof_eq
  · have hend : ∀ (h : Int) (r : St2) (x : Int × Int), endF h (r ++ [x]) = x.1 + x.2 := by
      intro h r
      induction r generalizing h with
      | nil => intro x; rfl
      | cons y r ih => intro x; exact ih _ x
    unfold f_end_of d_end_of
    rw [runF_]
    rcases List.eq_nil_or_concat bs with rfl | ⟨r, x, rfl⟩
    · simp [endF]
    · rw [List.concat_eq_append, hend]
      have hla : atI ((r ++ [x]).map pairV) (-1) = some (pairV x) := by
        rw [List.map_append]
        exact atI_last _ _
      have hl : (0 : Int) < (r.length : Int) + 1 := by omega
      rw [List.map_append] at hla
      simp only [List.map_cons, List.map_nil] at hla
      simp [hl, fIx_l, hla]
      simp [pairV]
theorem gholes' {bs : St2} {x : PV} {μ : Mu} (hx : x = .tup (bs.map pairV) ∨ x = .lst (bs.map pairV)) (hl : bs.length ≤ 100000) : gZ false holesS [x] μ = .ok (.tup ((holF 0 bs).map pairV)) μ := by
  rcases hx with rfl | rfl
  · exact gholes hl
  · exact gZ_ok (by show (noref (.lst (bs.map pairV)) && true) = true; rw [nrf_lst]; rfl) (by
      show (ps1 (.lst (bs.map pairV))).bind _ = _
      rw [ps1_lst]
      simp only [Option.bind_some]
      rw [if_pos hl])
theorem hol_len : ∀ {bs : St2} {h : Int}, (holF h bs).length ≤ bs.length
  | [], _ => Nat.le_refl _
  | x :: r, h => by
    have := hol_len (bs := r) (h := x.1 + x.2)
    unfold holF
    rw [List.length_append, List.length_cons]
    split <;> simp <;> omega
def aheadX (bs : St2) (p q c a : Int) (k : Nat) : List PV := (aheadL bs p q c a k).map (row3 bs p q c a)
theorem aheadX_S (bs : St2) (p q c a : Int) (k : Nat) : aheadX bs p q c a (k + 1) = aheadX bs p q c a k ++ (if rowP bs p q c a k < endF 0 bs then [row3 bs p q c a k] else []) := by
  unfold aheadX aheadL
  rw [List.range_succ, List.filter_append, List.map_append]
  congr 1
  by_cases hc : rowP bs p q c a k < endF 0 bs
  · simp [hc]
  · simp [hc]
theorem aheadX_len (bs : St2) (p q c a : Int) (k : Nat) : (aheadX bs p q c a k).length ≤ k := by
  unfold aheadX aheadL
  rw [List.length_map]
  have := List.length_filter_le (fun k => decide (rowP bs p q c a k < endF 0 bs)) (List.range k)
  simpa using this
theorem rahead_eq {bs : St2} {x : PV} {p q c a : Int} (hx : x = .tup (bs.map pairV) ∨ x = .lst (bs.map pairV)) (hl : bs.length ≤ 1000) (ha : Asc 0 bs) (h : OkS p q c a 0) (hm : mostH bs ≤ 100000) :
    ∃ l μ', f_rows_ahead [rl p q c, x, .int a] [] = .ok (.ref l) μ' ∧ getM μ' l = some (aheadX bs p q c a (stK bs p q c a)) := by
  have ht : ∀ μ, f_tupled 8 [x] μ = .ok (.tup (bs.map pairV)) μ := fun μ => tupled_ps (n := 5) hx (by omega)
  have he : ∀ μ, f_end_of [x] μ = .ok (.int (endF 0 bs)) μ := fun μ => endof_eq' hx
  have hh : ∀ μ, gZ false holesS [x] μ = .ok (.tup ((holF 0 bs).map pairV)) μ := fun μ => gholes' hx (by omega)
  have hck : ∀ μ, f_check_start [rl p q c, .int a] μ = .ok .non μ := fun μ => check_eq h.r h.a1 h.st
  have hlow : ∀ μ, f_lowest_place [.tup (bs.map pairV), .int a] μ = .ok (.int (lowF 0 bs a)) μ := fun μ => lowest_eq (.inl rfl) (by omega)
  have hol := hol_len (bs := bs) (h := 0)
  have hall : allI (.int 0 :: (holF 0 bs).map fun g => PV.int g.2) = some (0 :: (holF 0 bs).map (·.2)) := by
    have := allI_map (fun i : Int => i) (0 :: (holF 0 bs).map (·.2))
    rw [List.map_cons, List.map_map, List.map_cons, List.map_map] at this
    exact this
  have hmax : ∀ μ, fMax [.lst (.int 0 :: (holF 0 bs).map fun g => PV.int g.2)] μ = .ok (.int (mostH bs)) μ := fun μ => fMax_lst hall
  have hol1 : (holF 0 bs).length + 1 ≤ 16777216 := by omega
  unfold f_rows_ahead d_rows_ahead
  rw [runF_]
  simp [dStar, hck, ht, he, hh]
  rw [lc_ty (fun g : Int × Int => .int g.2) (by omega) (fun g _ => ⟨_, rfl, by simp [wipeP, pairV]⟩)]
  simp [wipeP, hmax, hlow, hol1]
  generalize e : dWhileN _ _ _ _ _ = o
  have key : ∃ ρ, ρ[6]? = some (some (.ref 0)) ∧ o = .nx ρ [.lst (aheadX bs p q c a (stK bs p q c a))] := by
    obtain ⟨k1, k2⟩ := stK_spec (bs := bs) h.r h.a1 h.st
    generalize hK : stK bs p q c a = K at *
    have hKb : K ≤ 100000 := by
      cases K with
      | zero => omega
      | succ k =>
        have := k2 k (by omega)
        have := sz_gt h.r h.a1 h.st k
        have := h.a1
        omega
    rw [← e]
    refine while_gen (Inv := fun ρ μ' => ∃ k : Nat, k ≤ K ∧ ∃ x9, ρ = [some (rl p q c), some x, some (.int a), some (.tup (bs.map pairV)), some (.int (endF 0 bs)), some (.int (mostH bs)), some (.ref 0), some (.tup [.int (rowP bs p q c a k), .int (sz p q c a k)]), some (.int (k : Nat)), x9, none, none] ∧ μ' = [.lst (aheadX bs p q c a k)])
      (fun ρ _ => match ρ with | [_, _, _, _, _, _, _, _, some (.int k), _, _, _] => ((K : Int) - k).toNat | _ => 0)
      (Q := fun o => ∃ ρ, ρ[6]? = some (some (.ref 0)) ∧ o = .nx ρ [.lst (aheadX bs p q c a K)]) ?_ ⟨0, Nat.zero_le _, none, rfl, rfl⟩ ?_
    · show ((K : Int) - 0).toNat < lid
      unfold lid; omega
    · rintro ρ μ' ⟨k, hk, x9, rfl, rfl⟩
      refine ⟨decide (sz p q c a k ≤ mostH bs), [.lst (aheadX bs p q c a k)], by simp [fIx_tup1], ?_⟩
      by_cases hkn : k = K
      · subst hkn
        have : ¬ sz p q c a k ≤ mostH bs := by omega
        simp only [this, decide_false, Bool.false_eq_true, if_false]
        exact ⟨_, rfl, rfl⟩
      · have hs : sz p q c a k ≤ mostH bs := k2 k (by omega)
        have hb := beside_eq (bs := bs) (b := (rowP bs p q c a k, sz p q c a k)) (s := sz p q c a (k + 1)) (μ := [.lst (aheadX bs p q c a (k + 1))]) (by omega)
        have hb2 : f_lowest_beside [.tup (bs.map pairV), .tup [.int (rowP bs p q c a k), .int (sz p q c a k)], .int (nxt p q c (sz p q c a k))] [.lst (aheadX bs p q c a (k + 1))] = .ok (.int (rowP bs p q c a (k + 1))) [.lst (aheadX bs p q c a (k + 1))] := hb
        have hal := aheadX_len bs p q c a k
        have hlen : (aheadX bs p q c a k).length < 16777216 := by omega
        have hS := aheadX_S bs p q c a k
        simp only [hs, decide_true, if_true]
        refine turn_nx (ρ := [some (rl p q c), some x, some (.int a), some (.tup (bs.map pairV)), some (.int (endF 0 bs)), some (.int (mostH bs)), some (.ref 0), some (.tup [.int (rowP bs p q c a (k + 1)), .int (sz p q c a (k + 1))]), some (.int ((k + 1 : Nat) : Int)), some (.int (nxt p q c (sz p q c a k))), none, none]) (μ := [.lst (aheadX bs p q c a (k + 1))]) ?_ ⟨⟨k + 1, by omega, _, rfl, rfl⟩, by show ((K : Int) - ((k + 1 : Nat) : Int)).toNat < ((K : Int) - (k : Int)).toNat; omega⟩
        by_cases hc : rowP bs p q c a k < endF 0 bs
        · rw [if_pos hc] at hS
          generalize hA : aheadX bs p q c a (k + 1) = A at *
          simp [hc, dStar, methL_, fAppend_, hlen, next_eq h.r, fIx_tup0, fIx_tup1]
          rw [show aheadX bs p q c a k ++ [.tup [.int (k : Nat), .int (rowP bs p q c a k), .int (sz p q c a k)]] = A from hS.symm, hb2]
          simp [sz]
        · rw [if_neg hc, List.append_nil] at hS
          rw [hS] at hb2 ⊢
          simp [hc, next_eq h.r, hb2, sz, fIx_tup0, fIx_tup1]
  obtain ⟨ρ, hρ, rfl⟩ := key
  refine ⟨0, [.lst (aheadX bs p q c a (stK bs p q c a))], ?_, rfl⟩
  simp [dRet_, dVar, hρ]

end GB
set_option Elab.async false
set_option exponentiation.threshold 20000
set_option linter.all false
set_option maxRecDepth 100000
set_option maxHeartbeats 4000000
namespace GB
open PySem PySem.Spec PyProof.Rows L2
end GB
set_option Elab.async false
set_option exponentiation.threshold 20000
set_option linter.all false
set_option maxRecDepth 100000
set_option maxHeartbeats 2000000
namespace GB
open PySem L2
theorem rahead_up (as : List PV) (v : PV) (_ : as.length = 3) (hv : raheadS as = some v) : Ends true f_rows_ahead as v := by
  unfold raheadS at hv
  split at hv
  · rename_i p q c x a _
    cases hx : ps1 x with
    | none => rw [hx] at hv; cases hv
    | some bs =>
      rw [hx] at hv
      simp only [Option.bind_some] at hv
      split at hv
      · rename_i hl
        cases hv
        rw [Bool.and_eq_true, Bool.and_eq_true, decide_eq_true_eq] at hl
        obtain ⟨⟨h1, h2⟩, h3⟩ := hl
        unfold stO2 at h2
        rw [Bool.and_eq_true, decide_eq_true_eq, ascB_iff] at h2
        obtain ⟨l, μ', e1, e2⟩ := rahead_eq (ps1_inv hx) h2.2 h2.1 (okS_of h1) h3
        exact ⟨_, l, μ', rfl, norefL_map fun _ => rfl, e1, e2⟩
      · cases hv
  · cases hv
theorem grahead {bs : St2} {x : PV} {p q c a : Int} {μ : Mu} (hx : x = .tup (bs.map pairV) ∨ x = .lst (bs.map pairV)) (hl : bs.length ≤ 1000) (ha : Asc 0 bs) (h : OkS p q c a 0) (hm : mostH bs ≤ 100000) : gZ true raheadS [rl p q c, x, .int a] μ = .ok (.lst (aheadX bs p q c a (stK bs p q c a))) μ := by
  have hp : ps1 x = some bs := by
    rcases hx with rfl | rfl
    · exact ps1_tup
    · exact ps1_lst
  have hn : noref x = true := by
    rcases hx with rfl | rfl
    · exact nrf_tup
    · exact nrf_lst
  refine gZ_ok (by
    show (noref (rl p q c) && (noref x && true)) = true
    rw [hn]; rfl) ?_
  show (ps1 x).bind _ = _
  rw [hp]
  simp only [Option.bind_some]
  have h2 : stO2 bs = true := by
    unfold stO2
    rw [Bool.and_eq_true, decide_eq_true_eq, ascB_iff]
    exact ⟨ha, hl⟩
  rw [h2, okS_mk h.r h.a1 h.st h.n0 h.n1]
  simp [hm, aheadX]
theorem hol_ge : ∀ {bs : St2} {h : Int}, Asc h bs → ∀ g ∈ holF h bs, h ≤ g.1 ∧ 1 ≤ g.2 := fun ha g hg => ⟨(hole_in ha g hg).1, (hole_in ha g hg).2.1⟩
theorem allP_map : ∀ {ps : St2}, (∀ x ∈ ps, 0 ≤ x.1 ∧ 0 ≤ x.2) → allP (ps.map pairV) = some ps
  | [], _ => rfl
  | x :: r, h => by
    show (if 0 ≤ x.1 ∧ 0 ≤ x.2 then (allP (r.map pairV)).map fun ps => (x.1, x.2) :: ps else none) = _
    rw [if_pos (h x List.mem_cons_self), allP_map fun y hy => h y (List.mem_cons_of_mem _ hy)]
    rfl
theorem sortSetP_map {ps : St2} {μ : Mu} (h : ∀ x ∈ ps, 0 ≤ x.1 ∧ 0 ≤ x.2) (hl : ps.length < 64) : sortSetP (ps.map pairV) μ = .ok (.lst ((srtP ps).map pairV)) μ := by
  cases ps with
  | nil => rfl
  | cons x r =>
    unfold sortSetP
    rw [show allI ((x :: r).map pairV) = none from rfl]
    simp only [allP_map h]
    rw [if_pos hl]
    rfl
theorem setof_eq {ps : St2} {x : PV} {μ : Mu} (hx : lstP x μ = some (ps.map pairV)) (h : ∀ x ∈ ps, 0 ≤ x.1 ∧ 0 ≤ x.2) (hl : ps.length < 64) : f_set_of [x] μ = .ok (.tup ((srtP ps).map pairV)) μ := by
  have e : fSortSet x μ = .ok (.lst ((srtP ps).map pairV)) μ := by
    unfold fSortSet
    rw [hx]
    exact sortSetP_map h hl
  unfold f_set_of d_set_of
  rw [runF_]
  simp [e]
theorem aheadX_nil {bs : St2} {p q c a : Int} {k : Nat} (h : aheadL bs p q c a k = []) : aheadX bs p q c a k = [] := by unfold aheadX; rw [h]; rfl
def usedG (bs : St2) (p q c a : Int) (k : Nat) : St2 := (holF 0 bs).filter fun g => decide (g.1 ≤ rowP bs p q c a k) && decide (rowP bs p q c a k < g.1 + g.2)
theorem usedL_G (bs : St2) (p q c a : Int) : usedL bs p q c a = (aheadL bs p q c a (stK bs p q c a)).flatMap (usedG bs p q c a) := rfl
theorem used_eq {bs : St2} {x : PV} {p q c a : Int} (hx : x = .tup (bs.map pairV) ∨ x = .lst (bs.map pairV)) (hl : bs.length ≤ 1000) (ha : Asc 0 bs) (h : OkS p q c a 0) (hm : mostH bs ≤ 100000) (hu : (usedL bs p q c a).length < 64) :
    ∃ μ', f_holes_used [rl p q c, x, .int a] [] = .ok (.tup ((srtP (usedL bs p q c a)).map pairV)) μ' := by
  have hh : ∀ μ, gZ false holesS [x] μ = .ok (.tup ((holF 0 bs).map pairV)) μ := fun μ => gholes' hx (by omega)
  have hr : ∀ μ, gZ true raheadS [rl p q c, x, .int a] μ = .ok (.lst (aheadX bs p q c a (stK bs p q c a))) μ := fun μ => grahead hx hl ha h hm
  have hol := hol_len (bs := bs) (h := 0)
  have hkl : (aheadL bs p q c a (stK bs p q c a)).length ≤ 100000 := by
    have e := aheadX_len bs p q c a (stK bs p q c a)
    unfold aheadX at e
    rw [List.length_map] at e
    obtain ⟨k1, k2⟩ := stK_spec (bs := bs) h.r h.a1 h.st
    generalize stK bs p q c a = K at *
    cases K with
    | zero => omega
    | succ k =>
      have := k2 k (by omega)
      have := sz_gt h.r h.a1 h.st k
      have := h.a1
      omega
  have hu0 : ∀ x ∈ usedL bs p q c a, 0 ≤ x.1 ∧ 0 ≤ x.2 := fun x hx => by
    rw [usedL_G] at hx
    obtain ⟨k, _, hx⟩ := List.mem_flatMap.mp hx
    have := hol_ge ha x (List.mem_filter.mp hx).1
    exact ⟨by omega, by omega⟩
  unfold f_holes_used d_holes_used
  rw [runF_]
  simp [hr]
  unfold aheadX
  generalize hal : aheadL bs p q c a (stK bs p q c a) = al at *
  have hus : usedL bs p q c a = al.flatMap (usedG bs p q c a) := by rw [usedL_G, hal]
  generalize e : dForN _ _ _ _ _ _ _ = o
  have key : ∃ x4 x5 x6, o = .nx [some (rl p q c), some x, some (.int a), some (.ref 0), x4, x5, x6, none] [.lst ((usedL bs p q c a).map pairV)] := by
    rw [← e]
    refine for_items (items := al.map (row3 bs p q c a)) (Inv := fun i ρ μ' => ∃ (acc : St2) (x4 x5 x6 : Option PV), ρ = [some (rl p q c), some x, some (.int a), some (.ref 0), x4, x5, x6, none] ∧ μ' = [.lst (acc.map pairV)] ∧ usedL bs p q c a = acc ++ (al.drop i).flatMap (usedG bs p q c a))
      (Q := fun o => ∃ x4 x5 x6, o = .nx [some (rl p q c), some x, some (.int a), some (.ref 0), x4, x5, x6, none] [.lst ((usedL bs p q c a).map pairV)]) ?_ ?_ ?_ ?_ ?_
    · rintro i ρ μ' _
      rfl
    · rw [List.length_map]; unfold lid; omega
    · exact ⟨[], _, _, _, rfl, rfl, hus⟩
    · rintro ρ μ' ⟨acc, x4, x5, x6, rfl, rfl, hh⟩
      rw [List.length_map, List.drop_length, List.flatMap_nil, List.append_nil] at hh
      rw [hh]
      exact ⟨_, _, _, rfl⟩
    · rintro i y ρ μ' hy ⟨acc, x4, x5, x6, rfl, rfl, hh2⟩
      rw [List.getElem?_map] at hy
      cases hg : al[i]? with
      | none => rw [hg] at hy; cases hy
      | some k =>
        rw [hg] at hy
        cases hy
        obtain ⟨hi, hb⟩ := List.getElem?_eq_some_iff.mp hg
        rw [List.drop_eq_getElem_cons hi, hb, List.flatMap_cons, ← List.append_assoc] at hh2
        refine ⟨[some (rl p q c), some x, some (.int a), some (.ref 0), some (.int k), some (.int (rowP bs p q c a k)), some (.int (sz p q c a k)), none], [.lst (acc.map pairV)], by simp [row3], ?_⟩
        have hlen : (acc ++ usedG bs p q c a k).length < 64 := by
          have := congrArg List.length hh2
          rw [List.length_append (as := acc ++ usedG bs p q c a k)] at this
          omega
        refine turn_nx (ρ := [some (rl p q c), some x, some (.int a), some (.ref 0), some (.int k), some (.int (rowP bs p q c a k)), some (.int (sz p q c a k)), none]) (μ := [.lst ((acc ++ usedG bs p q c a k).map pairV)]) ?_ ⟨_, _, _, _, rfl, rfl, hh2⟩
        simp [hh]
        rw [lc_tyF (fun g : Int × Int => decide (g.1 ≤ rowP bs p q c a k) && decide (rowP bs p q c a k < g.1 + g.2)) pairV (by omega) (fun g _ => ⟨_, rfl, by
          by_cases h1 : g.1 ≤ rowP bs p q c a k
          · by_cases h2 : rowP bs p q c a k < g.1 + g.2 <;> simp [wipeP, pairV, fIx_tup0, h1, h2, chO]
          · simp [wipeP, pairV, fIx_tup0, h1, chO], fun _ => by simp [wipeP]⟩)]
        have hle : acc.length + (usedG bs p q c a k).length ≤ 16777216 := by
          rw [← List.length_append]; omega
        unfold usedG at hle
        simp [wipeP, methL_, fExtend, lstP, hle, usedG]
  obtain ⟨x4, x5, x6, rfl⟩ := key
  have hs : f_set_of [.ref 0] [.lst ((usedL bs p q c a).map pairV)] = .ok (.tup ((srtP (usedL bs p q c a)).map pairV)) [.lst ((usedL bs p q c a).map pairV)] := setof_eq rfl hu0 hu
  exact ⟨_, by simp [hs]; rfl⟩
theorem used_up (as : List PV) (v : PV) (_ : as.length = 3) (hv : usedS as = some v) : Ends false f_holes_used as v := by
  unfold usedS at hv
  split at hv
  · rename_i p q c x a _
    cases hx : ps1 x with
    | none => rw [hx] at hv; cases hv
    | some bs =>
      rw [hx] at hv
      simp only [Option.bind_some] at hv
      split at hv
      · rename_i hl
        cases hv
        rw [Bool.and_eq_true, Bool.and_eq_true, Bool.and_eq_true, decide_eq_true_eq, decide_eq_true_eq] at hl
        obtain ⟨⟨⟨h1, h2⟩, h3⟩, h4⟩ := hl
        unfold stO2 at h2
        rw [Bool.and_eq_true, decide_eq_true_eq, ascB_iff] at h2
        exact ⟨norefL_map fun _ => rfl, used_eq (ps1_inv hx) h2.2 h2.1 (okS_of h1) h3 h4⟩
      · cases hv
  · cases hv
theorem gused {bs : St2} {p q c a : Int} {μ : Mu} (hl : bs.length ≤ 1000) (ha : Asc 0 bs) (h : OkS p q c a 0) (hm : mostH bs ≤ 100000) (hu : (usedL bs p q c a).length < 64) : gZ false usedS [rl p q c, .tup (bs.map pairV), .int a] μ = .ok (.tup ((srtP (usedL bs p q c a)).map pairV)) μ := by
  refine gZ_ok (by
    show (noref (rl p q c) && (noref (.tup (bs.map pairV)) && true)) = true
    rw [nrf_tup]; rfl) ?_
  show (ps1 (.tup (bs.map pairV))).bind _ = _
  rw [ps1_tup]
  simp only [Option.bind_some]
  have h2 : stO2 bs = true := by
    unfold stO2
    rw [Bool.and_eq_true, decide_eq_true_eq, ascB_iff]
    exact ⟨ha, hl⟩
  rw [h2, okS_mk h.r h.a1 h.st h.n0 h.n1]
  simp [hm, hu]

end GB
set_option Elab.async false
set_option exponentiation.threshold 20000
set_option linter.all false
set_option maxRecDepth 100000
set_option maxHeartbeats 4000000
namespace GB
open PySem PySem.Spec PyProof.Rows L2
end GB
set_option Elab.async false
set_option exponentiation.threshold 20000
set_option linter.all false
set_option maxRecDepth 100000
set_option maxHeartbeats 2000000
namespace GB
open PySem L2
def aheadK (bs : St2) (p q c a : Int) : List Nat := aheadL bs p q c a (stK bs p q c a)
def sinceN (bs : St2) (p q c a : Int) : Nat := match (aheadK bs p q c a).getLast? with
  | none => 0
  | some k => k + 1
def lastV (bs : St2) (p q c a : Int) : PV := match (aheadK bs p q c a).getLast? with
  | none => .non
  | some k => .int (k : Nat)
theorem lastahead_eq {bs : St2} {x : PV} {p q c a : Int} {μ : Mu} (hx : x = .tup (bs.map pairV) ∨ x = .lst (bs.map pairV)) (hl : bs.length ≤ 1000) (ha : Asc 0 bs) (h : OkS p q c a 0) (hm : mostH bs ≤ 100000) : f_last_ahead [rl p q c, x, .int a] μ = .ok (lastV bs p q c a) μ := by
  have hr : ∀ μ, gZ true raheadS [rl p q c, x, .int a] μ = .ok (.lst (aheadX bs p q c a (stK bs p q c a))) μ := fun μ => grahead hx hl ha h hm
  have hX : aheadX bs p q c a (stK bs p q c a) = (aheadK bs p q c a).map (row3 bs p q c a) := rfl
  unfold f_last_ahead d_last_ahead lastV
  rw [runF_]
  rw [hX] at hr
  rcases List.eq_nil_or_concat (aheadK bs p q c a) with e | ⟨r, k, e⟩
  · rw [e] at hr ⊢
    simp [hr]
  · rw [List.concat_eq_append] at e
    rw [e] at hr ⊢
    have hla : atI ((r ++ [k]).map (row3 bs p q c a)) (-1) = some (row3 bs p q c a k) := by
      rw [List.map_append]
      exact atI_last _ _
    have hp : (0 : Int) < (r.length : Int) + 1 := by omega
    rw [List.map_append, List.map_cons, List.map_nil] at hla
    simp [hr, hp, fIx_l, hla]
    simp [row3, fIx_tup0]
theorem goesfree_eq {bs : St2} {x : PV} {p q c a : Int} {μ : Mu} (hx : x = .tup (bs.map pairV) ∨ x = .lst (bs.map pairV)) (hl : bs.length ≤ 1000) (ha : Asc 0 bs) (h : OkS p q c a 0) (hm : mostH bs ≤ 100000) : f_goes_free [rl p q c, x, .int a] μ = .ok (.tup [.int (sinceN bs p q c a : Nat), .int (sz p q c a (sinceN bs p q c a))]) μ := by
  have hr : ∀ μ, gZ true raheadS [rl p q c, x, .int a] μ = .ok (.lst (aheadX bs p q c a (stK bs p q c a))) μ := fun μ => grahead hx hl ha h hm
  have hX : aheadX bs p q c a (stK bs p q c a) = (aheadK bs p q c a).map (row3 bs p q c a) := rfl
  unfold f_goes_free d_goes_free sinceN
  rw [runF_]
  rw [hX] at hr
  rcases List.eq_nil_or_concat (aheadK bs p q c a) with e | ⟨r, k, e⟩
  · rw [e] at hr ⊢
    simp [hr]
    rfl
  · rw [List.concat_eq_append] at e
    rw [e] at hr ⊢
    have hla : atI ((r ++ [k]).map (row3 bs p q c a)) (-1) = some (row3 bs p q c a k) := by
      rw [List.map_append]
      exact atI_last _ _
    have hp : ¬ ((r.length : Int) + 1 = 0) := by omega
    rw [List.map_append, List.map_cons, List.map_nil] at hla
    simp [hr, hp, fIx_l, hla]
    simp [row3, next_eq h.r, sz]
theorem aheadat_eq {bs : St2} {p q c a : Int} {n : Nat} {μ : Mu} (hl : bs.length ≤ 1000) (ha : Asc 0 bs) (h : OkS p q c a n) : f_ahead_at [rl p q c, .tup (bs.map pairV), .int a, .int n] μ = .ok (.tup ((aheadL bs p q c a (n + 1)).map fun k => .int (k : Nat))) μ := by
  have hs : ∀ μ, gZ false srunS [rl p q c, .tup (bs.map pairV), .int a, .int n] μ = .ok (.tup (rowsL bs p q c a n)) μ := fun μ => gsrun hl ha h
  have hn := h.n1
  have he : ∀ μ, f_end_of [.tup (bs.map pairV)] μ = .ok (.int (endF 0 bs)) μ := fun μ => endof_eq
  unfold f_ahead_at d_ahead_at
  rw [runF_]
  simp [hs, he]
  rw [lc_num (by rw [rowsL_X, List.length_map, rowX_len]; omega)]
  unfold rowsL
  rw [numd_map]
  have hm : (List.range (n + 1)).mapIdx (fun i (k : Nat) => (i, k)) = (List.range (n + 1)).map fun k => (k, k) := by
    apply List.ext_getElem?
    intro i
    rw [List.getElem?_mapIdx, List.getElem?_map]
    by_cases hi : i < n + 1
    · rw [List.getElem?_range hi]; rfl
    · rw [List.getElem?_eq_none (by rw [List.length_range]; omega)]; rfl
  rw [hm, List.map_map]
  rw [lcP_tyF (enc := (fun p_1 : Nat × Nat => PV.tup [.int p_1.1, pairV (rowP bs p q c a p_1.2, sz p q c a p_1.2)]) ∘ fun k => (k, k)) (fun k : Nat => decide (rowP bs p q c a k < endF 0 bs)) (fun k : Nat => .int k) (fun k hk => ⟨_, rfl, by simp [wipeP, pairV, fIx_tup0], fun _ => by simp [wipeP]⟩)]
  simp [aheadL]
theorem manyat_eq {e : Int} {s : Int} {μ : Mu} : f_how_many_places [.tup [pairV (0, e)], .int s] μ = .ok (.int 0) μ := by
  have hh : ∀ μ, gZ false holesS [.tup [pairV (0, e)]] μ = .ok (.tup []) μ := fun μ => gholes (bs := [(0, e)]) (by simp)
  unfold f_how_many_places d_how_many_places
  rw [runF_]
  simp [hh]
  rw [lc_tup (by simp)]
  simp [wipeP, lcP, fSum, lstP, allI]
theorem both_eq {bs cs : St2} {μ : Mu} (h1 : bs.length ≤ 1000) (h2 : cs.length ≤ 1000) : f_both_stays [.tup (bs.map pairV), .tup (cs.map pairV)] μ = .ok (.tup ((plainT (sortL (bs ++ cs))).map pairV)) μ := by
  have t1 : ∀ μ, f_tupled 8 [.tup (bs.map pairV)] μ = .ok (.tup (bs.map pairV)) μ := fun μ => tupled_ps (n := 5) (.inl rfl) (by omega)
  have t2 : ∀ μ, f_tupled 8 [.tup (cs.map pairV)] μ = .ok (.tup (cs.map pairV)) μ := fun μ => tupled_ps (n := 5) (.inl rfl) (by omega)
  have hs : ∀ μ, fSortedX [.lst (bs.map pairV ++ cs.map pairV)] μ = .ok (.lst ((sortL (bs ++ cs)).map pairV)) μ := fun μ => by
    have := fSortedX_lst (ps := bs ++ cs) (μ := μ)
    rwa [List.map_append] at this
  have hp : ∀ μ, gZ false plainS [.lst ((sortL (bs ++ cs)).map pairV)] μ = .ok (.tup ((plainT (sortL (bs ++ cs))).map pairV)) μ := fun μ => gZ_ok (by show (noref (.lst ((sortL (bs ++ cs)).map pairV)) && true) = true; rw [nrf_lst]; rfl) (by
    show (ps1 (.lst ((sortL (bs ++ cs)).map pairV))).bind _ = _
    rw [ps1_lst]
    simp only [Option.bind_some]
    rw [if_pos (by rw [(sortL_perm _).length_eq, List.length_append]; omega)])
  unfold f_both_stays d_both_stays
  rw [runF_]
  have hle : bs.length + cs.length ≤ 16777216 := by omega
  simp [dStar, t1, t2, hs, hp, hle]
theorem gplain {bs : St2} {μ : Mu} (hl : bs.length ≤ 100000) : gZ false plainS [.tup (bs.map pairV)] μ = .ok (.tup ((plainT bs).map pairV)) μ := gZ_ok (by show (noref (.tup (bs.map pairV)) && true) = true; rw [nrf_tup]; rfl) (by
  show (ps1 (.tup (bs.map pairV))).bind _ = _
  rw [ps1_tup]
  simp only [Option.bind_some]
  rw [if_pos hl])

end GB
set_option Elab.async false
set_option exponentiation.threshold 20000
set_option linter.all false
set_option maxRecDepth 100000
set_option maxHeartbeats 4000000
namespace GB
open PySem PySem.Spec PyProof.Rows L2
end GB
set_option Elab.async false
set_option exponentiation.threshold 20000
set_option linter.all false
set_option maxRecDepth 100000
set_option maxHeartbeats 2000000
namespace GB
open PySem L2
theorem hol_most {bs : St2} : ∀ g ∈ holF 0 bs, g.2 ≤ mostH bs := fun g hg => by
  unfold mostH
  exact (maxI_spec ((holF 0 bs).map (·.2)) 0).2.2 g.2 (List.mem_map.mpr ⟨g, hg, rfl⟩)
theorem mem_aheadL {bs : St2} {p q c a : Int} {n k : Nat} : k ∈ aheadL bs p q c a n ↔ k < n ∧ rowP bs p q c a k < endF 0 bs := by
  unfold aheadL
  rw [List.mem_filter, List.mem_range, decide_eq_true_eq]
theorem ahead_lt {bs : St2} {p q c a : Int} (h : Rk p q c) (h1 : 1 ≤ a) (h2 : a < nxt p q c a) (ha : Asc 0 bs) {k : Nat} (hk : rowP bs p q c a k < endF 0 bs) : k < stK bs p q c a := by
  obtain ⟨g, hg, g1, g2⟩ := row_hole h h1 h2 ha hk
  have hm := hol_most g hg
  obtain ⟨k1, k2⟩ := stK_spec (bs := bs) h h1 h2
  apply Classical.byContradiction
  intro hn
  by_cases he : k = stK bs p q c a
  · rw [← he] at k1; omega
  · have := sz_up h h1 h2 (show stK bs p q c a < k by omega)
    omega
theorem aheadL_more {bs : St2} {p q c a : Int} (h : Rk p q c) (h1 : 1 ≤ a) (h2 : a < nxt p q c a) (ha : Asc 0 bs) : ∀ j : Nat, aheadL bs p q c a (stK bs p q c a + j) = aheadK bs p q c a
  | 0 => rfl
  | j + 1 => by
    have ih := aheadL_more h h1 h2 ha j
    unfold aheadL at ih ⊢
    rw [show stK bs p q c a + (j + 1) = stK bs p q c a + j + 1 from rfl, List.range_succ, List.filter_append, ih]
    have : ¬ rowP bs p q c a (stK bs p q c a + j) < endF 0 bs := fun hk => by
      have := ahead_lt h h1 h2 ha hk
      omega
    simp [this]
theorem aheadL_all {bs : St2} {p q c a : Int} (h : Rk p q c) (h1 : 1 ≤ a) (h2 : a < nxt p q c a) (ha : Asc 0 bs) {n : Nat} (hn : stK bs p q c a ≤ n) : aheadL bs p q c a n = aheadK bs p q c a := by
  have := aheadL_more h h1 h2 ha (n - stK bs p q c a)
  rwa [show stK bs p q c a + (n - stK bs p q c a) = n by omega] at this
theorem stK_le {bs : St2} {p q c a : Int} (h : Rk p q c) (h1 : 1 ≤ a) (h2 : a < nxt p q c a) {m : Nat} (hm : mostH bs ≤ m) : stK bs p q c a ≤ m := by
  obtain ⟨k1, k2⟩ := stK_spec (bs := bs) h h1 h2
  cases hK : stK bs p q c a with
  | zero => omega
  | succ k =>
    rw [hK] at k2
    have := k2 k (by omega)
    have := sz_gt h h1 h2 k
    omega
theorem since_le {bs : St2} {p q c a : Int} : sinceN bs p q c a ≤ stK bs p q c a := by
  unfold sinceN
  split
  · omega
  · rename_i k hk
    have : k ∈ aheadK bs p q c a := List.mem_of_getLast? hk
    have := (mem_aheadL.mp this).1
    omega
theorem since_ok {bs : St2} {p q c a : Int} (h : Rk p q c) (h1 : 1 ≤ a) (h2 : a < nxt p q c a) (ha : Asc 0 bs) :
    (∀ k, sinceN bs p q c a ≤ k → endF 0 bs ≤ rowP bs p q c a k) ∧ (sinceN bs p q c a = 0 ∨ ∃ K, sinceN bs p q c a = K + 1 ∧ rowP bs p q c a K < endF 0 bs) := by
  have key : ∀ k, rowP bs p q c a k < endF 0 bs → k ∈ aheadK bs p q c a := fun k hk => mem_aheadL.mpr ⟨ahead_lt h h1 h2 ha hk, hk⟩
  unfold sinceN
  cases hl : (aheadK bs p q c a).getLast? with
  | none =>
    have e : aheadK bs p q c a = [] := List.getLast?_eq_none_iff.mp hl
    refine ⟨fun k _ => ?_, .inl rfl⟩
    apply Classical.byContradiction
    intro hn
    have := key k (by omega)
    rw [e] at this
    exact List.not_mem_nil this
  | some L =>
    have hmem : L ∈ aheadK bs p q c a := List.mem_of_getLast? hl
    refine ⟨fun k hk => ?_, .inr ⟨L, rfl, (mem_aheadL.mp hmem).2⟩⟩
    apply Classical.byContradiction
    intro hn
    have hk2 := key k (by omega)
    have hk3 : L + 1 ≤ k := hk
    have hs : (aheadK bs p q c a).Pairwise (· < ·) := List.pairwise_lt_range.filter _
    obtain ⟨r, hr⟩ := List.getLast?_eq_some_iff.mp hl
    rw [hr] at hk2 hs
    rcases List.mem_append.mp hk2 with z | z
    · have := (List.pairwise_append.mp hs).2.2 k z L (List.mem_singleton.mpr rfl)
      omega
    · rw [List.mem_singleton] at z
      omega
theorem mem_usedL {bs : St2} {p q c a : Int} {g : Int × Int} : g ∈ usedL bs p q c a ↔ ∃ k ∈ aheadK bs p q c a, g ∈ holF 0 bs ∧ g.1 ≤ rowP bs p q c a k ∧ rowP bs p q c a k < g.1 + g.2 := by
  rw [usedL_G, List.mem_flatMap]
  constructor
  · rintro ⟨k, hk, hg⟩
    unfold usedG at hg
    rw [List.mem_filter, Bool.and_eq_true, decide_eq_true_eq, decide_eq_true_eq] at hg
    exact ⟨k, hk, hg.1, hg.2.1, hg.2.2⟩
  · rintro ⟨k, hk, hg, h1, h2⟩
    refine ⟨k, hk, ?_⟩
    unfold usedG
    rw [List.mem_filter, Bool.and_eq_true, decide_eq_true_eq, decide_eq_true_eq]
    exact ⟨hg, h1, h2⟩
theorem used_len {bs : St2} {p q c a : Int} : (usedL bs p q c a).length ≤ stK bs p q c a * (holF 0 bs).length := by
  have gen : ∀ ks : List Nat, (ks.flatMap (usedG bs p q c a)).length ≤ ks.length * (holF 0 bs).length := fun ks => by
    induction ks with
    | nil => simp
    | cons k ks ih =>
      rw [List.flatMap_cons, List.length_append, List.length_cons, Nat.succ_mul]
      have : (usedG bs p q c a k).length ≤ (holF 0 bs).length := List.length_filter_le _ _
      omega
  have hk : (aheadK bs p q c a).length ≤ stK bs p q c a := by
    have := aheadX_len bs p q c a (stK bs p q c a)
    unfold aheadX at this
    rwa [List.length_map] at this
  exact Nat.le_trans (gen _) (Nat.mul_le_mul_right _ hk)
/-- ahead: in a hole that is used -/
theorem ahead_used {bs : St2} {p q c a : Int} (h : Rk p q c) (h1 : 1 ≤ a) (h2 : a < nxt p q c a) (ha : Asc 0 bs) (k : Nat) :
    k ∈ aheadK bs p q c a ↔ ∃ g ∈ srtP (usedL bs p q c a), g.1 ≤ rowP bs p q c a k ∧ rowP bs p q c a k + sz p q c a k ≤ g.1 + g.2 := by
  have sp := sz_pos h h1 h2 k
  constructor
  · intro hk
    obtain ⟨g, hg, g1, g2⟩ := row_hole h h1 h2 ha (mem_aheadL.mp hk).2
    exact ⟨g, srtP_mem.mpr (mem_usedL.mpr ⟨k, hk, hg, g1, by omega⟩), g1, g2⟩
  · rintro ⟨g, hg, g1, g2⟩
    obtain ⟨_, _, hh, _⟩ := mem_usedL.mp (srtP_mem.mp hg)
    have := (hole_in ha g hh).2.2.1
    have hr : rowP bs p q c a k < endF 0 bs := by omega
    exact mem_aheadL.mpr ⟨ahead_lt h h1 h2 ha hr, hr⟩
/-! comparing -/
theorem pr_cmpT {L : St2} (h : L.length ≤ 900) : cmpOk (.tup (L.map pairV)) := cmp_tup (k := 4) (d := 1) (fun x hx => by
  obtain ⟨g, _, rfl⟩ := List.mem_map.mp hx
  simp [pairV, fz, fzL, dep, depL]) (by rw [List.length_map]; omega) (by decide)
theorem pr_cmpL {L : St2} (h : L.length ≤ 900) : cmpOk (.lst (L.map pairV)) := cmp_lst (k := 4) (d := 1) (fun x hx => by
  obtain ⟨g, _, rfl⟩ := List.mem_map.mp hx
  simp [pairV, fz, fzL, dep, depL]) (by rw [List.length_map]; omega) (by decide)
theorem pr_cmp1 {g : Int × Int} : cmpOk (pairV g) := ⟨by simp [pairV, fz, fzL], by simp [pairV, dep, depL]⟩
theorem pr_noB (L : St2) : noBL (L.map pairV) = true := noBL_map fun _ => rfl
theorem fNe_prnil {L : St2} {μ : Mu} (h : L.length ≤ 900) : fNe (.lst (L.map pairV)) (.lst []) μ = .ok (.bl (!L.isEmpty)) μ := by
  rw [fNe_nil (pr_noB L) (pr_cmpL h)]; simp
theorem fEq_prnil {L : St2} {μ : Mu} (h : L.length ≤ 900) : fEq (.lst (L.map pairV)) (.lst []) μ = .ok (.bl L.isEmpty) μ := by
  rw [fEq_nil (pr_noB L) (pr_cmpL h)]; simp
theorem tnil_cmp : cmpOk (.tup []) := ⟨by simp [fz, fzL], by simp [dep, depL]⟩
theorem nat_cmp {ks : List Nat} (h : ks.length ≤ 900) : cmpOk (.tup (ks.map fun k => .int (k : Nat))) := cmp_tup (k := 1) (d := 0) (fun x hx => by
  obtain ⟨g, _, rfl⟩ := List.mem_map.mp hx
  simp [fz, dep]) (by rw [List.length_map]; omega) (by decide)
theorem eqP_tnil {xs : List PV} : eqP (.tup xs) (.tup []) = xs.isEmpty := by cases xs <;> rfl
theorem fEq_natnil {ks : List Nat} {μ : Mu} (h : ks.length ≤ 900) : fEq (.tup (ks.map fun k => .int (k : Nat))) (.tup []) μ = .ok (.bl ks.isEmpty) μ := by
  rw [fEq_noB (x := .tup (ks.map fun k => .int (k : Nat))) (show noBL _ = true from noBL_map fun _ => rfl) rfl (nat_cmp h) tnil_cmp, eqP_tnil]; simp
theorem fNe_natnil {ks : List Nat} {μ : Mu} (h : ks.length ≤ 900) : fNe (.tup (ks.map fun k => .int (k : Nat))) (.tup []) μ = .ok (.bl (!ks.isEmpty)) μ := by
  rw [fNe_noB (x := .tup (ks.map fun k => .int (k : Nat))) (show noBL _ = true from noBL_map fun _ => rfl) rfl (nat_cmp h) tnil_cmp, eqP_tnil]; simp
theorem eqP_iff {x y : PV} (hx : noref x = true) : eqP x y = true ↔ x = y := ⟨eqP_eq, fun e => by rw [← e]; exact eqP_refl hx⟩
theorem inX_nat {ks : List Nat} {k : Nat} {μ : Mu} (h : ks.length ≤ 900) : fInX (.int (k : Nat)) (.tup (ks.map fun k => .int (k : Nat))) μ = .ok (.bl (decide (k ∈ ks))) μ := by
  have e : (ks.map fun k => PV.int (k : Nat)).any (fun z => eqP z (.int (k : Nat))) = decide (k ∈ ks) := by
    rw [Bool.eq_iff_iff, List.any_eq_true, decide_eq_true_eq]
    constructor
    · rintro ⟨z, hz, he⟩
      obtain ⟨j, hj, rfl⟩ := List.mem_map.mp hz
      have := (eqP_iff (x := .int (j : Nat)) rfl).mp he
      injection this with this
      have : j = k := by omega
      rwa [← this]
    · intro hk
      exact ⟨.int (k : Nat), List.mem_map.mpr ⟨k, hk, rfl⟩, eqP_refl rfl⟩
  unfold fInX
  rw [anyX_tup rfl (noBL_map fun _ => rfl) ⟨by simp [fz], by simp [dep]⟩ (nat_cmp h), e]
theorem pairV_inj {x y : Int × Int} (h : pairV x = pairV y) : x = y := by
  unfold pairV at h
  injection h with h
  injection h with h1 h
  injection h with h2
  injection h1 with h1
  injection h2 with h2
  exact Prod.ext h1 h2
theorem ninX_pr {L : St2} {g : Int × Int} {μ : Mu} (h : L.length ≤ 900) : fNinX (pairV g) (.tup (L.map pairV)) μ = .ok (.bl (!decide (g ∈ L))) μ := by
  have e : (L.map pairV).any (fun z => eqP z (pairV g)) = decide (g ∈ L) := by
    rw [Bool.eq_iff_iff, List.any_eq_true, decide_eq_true_eq]
    constructor
    · rintro ⟨z, hz, he⟩
      obtain ⟨j, hj, rfl⟩ := List.mem_map.mp hz
      have := pairV_inj ((eqP_iff (x := pairV j) rfl).mp he)
      rwa [← this]
    · intro hk
      exact ⟨pairV g, List.mem_map.mpr ⟨g, hk, rfl⟩, eqP_refl rfl⟩
  unfold fNinX
  rw [anyX_tup rfl (pr_noB L) pr_cmp1 (pr_cmpT h), e]
theorem insP_len {x : Int × Int} : ∀ {r : St2}, (insP x r).length ≤ r.length + 1
  | [] => Nat.le_refl _
  | y :: r => by
    have := insP_len (x := x) (r := r)
    unfold insP
    split
    · simp
    · split <;> simp <;> omega
theorem srtP_len : ∀ xs : St2, (srtP xs).length ≤ xs.length
  | [] => Nat.le_refl _
  | x :: r => by
    have h1 := srtP_len r
    have h2 := insP_len (x := x) (r := srtP r)
    show (insP x (srtP r)).length ≤ r.length + 1
    omega

end GB
set_option Elab.async false
set_option exponentiation.threshold 20000
set_option linter.all false
set_option maxRecDepth 100000
set_option maxHeartbeats 4000000
namespace GB
open PySem PySem.Spec PyProof.Rows L2
end GB
set_option Elab.async false
set_option exponentiation.threshold 20000
set_option linter.all false
set_option maxRecDepth 100000
set_option maxHeartbeats 2000000
namespace GB
open PySem L2
theorem gpr_x {bs : St2} {x : PV} (hx : x = .tup (bs.map pairV) ∨ x = .lst (bs.map pairV)) {μ : Mu} : fSortedY [x] μ = .ok (.lst ((sortL bs).map pairV)) μ := by
  rcases hx with rfl | rfl
  · exact fSortedY_tup
  · rw [fSortedY_lst, fSortedX_lst]
theorem lawlow_eq {bs : St2} {x : PV} {s : Int} {μ : Mu} (hx : x = .tup (bs.map pairV) ∨ x = .lst (bs.map pairV)) (hl : bs.length ≤ 1000000) : f__law_lowest [x, .int s] μ = .ok (.int (lowL 0 (sortL bs) s)) μ := by
  have hlen : (sortL bs).length = bs.length := (sortL_perm _).length_eq
  unfold f__law_lowest d__law_lowest
  rw [runF_]
  simp [gpr_x hx]
  generalize hb : sortL bs = cs at *
  generalize e : dForN _ _ _ _ _ _ _ = o
  have key : ∃ x3 x4, o = .nx [some x, some (.int s), some (.int (lowL 0 cs s)), x3, x4] μ := by
    rw [← e]
    refine for_items (items := cs.map pairV) (Inv := fun i ρ μ' => μ' = μ ∧ ∃ h x3 x4, ρ = [some x, some (.int s), some (.int h), x3, x4] ∧ lowL 0 cs s = lowL h (cs.drop i) s)
      (Q := fun o => ∃ x3 x4, o = .nx [some x, some (.int s), some (.int (lowL 0 cs s)), x3, x4] μ) ?_ ?_ ?_ ?_ ?_
    · rintro i ρ μ' _
      rfl
    · rw [List.length_map]; unfold lid; omega
    · exact ⟨rfl, 0, _, _, rfl, rfl⟩
    · rintro ρ μ' ⟨rfl, h, x3, x4, rfl, hh⟩
      rw [List.length_map, List.drop_length] at hh
      rw [hh]
      exact ⟨_, _, rfl⟩
    · rintro i y ρ μ' hy ⟨rfl, h, x3, x4, rfl, hh⟩
      rw [List.getElem?_map] at hy
      cases hg : cs[i]? with
      | none => rw [hg] at hy; cases hy
      | some b =>
        rw [hg] at hy
        cases hy
        obtain ⟨hi, hb⟩ := List.getElem?_eq_some_iff.mp hg
        rw [List.drop_eq_getElem_cons hi, hb] at hh
        have hh2 : lowL 0 cs s = if b.1 < h + s ∧ h < b.1 + b.2 then lowL (b.1 + b.2) (cs.drop (i + 1)) s else lowL h (cs.drop (i + 1)) s := hh
        refine ⟨[some x, some (.int s), some (.int h), some (.int b.1), some (.int b.2)], μ', by simp [pairV], ?_⟩
        by_cases h1 : b.1 < h + s
        · by_cases h2 : h < b.1 + b.2
          · rw [if_pos ⟨h1, h2⟩] at hh2
            simp [h1, h2]
            exact hh2
          · rw [if_neg (fun z => h2 z.2)] at hh2
            simp [h1, h2]
            exact hh2
        · rw [if_neg (fun z => h1 z.1)] at hh2
          simp [h1]
          exact hh2
  obtain ⟨x3, x4, rfl⟩ := key
  simp
theorem pairs_eq {zs : List Int} (hl : zs.length ≤ 900) : ∃ μ', f__law_pairs [.lst (zs.map .int)] [] = .ok (.tup ((prF (srtS zs)).map pairV)) μ' := by
  have hss : ∀ μ, fSortSet (.lst (zs.map .int)) μ = .ok (.lst ((srtS zs).map .int)) μ := fun μ => by
    show sortSetP (zs.map .int) μ = _
    unfold sortSetP
    have := allI_map (fun i : Int => i) zs
    rw [List.map_id'] at this
    rw [this]
    simp only
    rw [if_pos (by omega)]
  have hsl := srtS_len zs
  unfold f__law_pairs d__law_pairs
  rw [runF_]
  simp [hss]
  generalize hb : srtS zs = bs at *
  generalize e : dForN _ _ _ _ _ _ _ = o
  have key : ∃ x2, o = .nx [some (.lst (zs.map .int)), some (.ref 0), x2] [.lst ((prF bs).map pairV)] := by
    rw [← e]
    refine for_items (items := bs.map .int) (Inv := fun i ρ μ' => ∃ (acc : St2) (x2 : Option PV), ρ = [some (.lst (zs.map .int)), some (.ref 0), x2] ∧ μ' = [.lst (acc.map pairV)] ∧ acc.length ≤ i ∧ ((i = 0 ∧ acc = []) ∨ ∃ done cur, acc = done ++ [cur] ∧ prF bs = done ++ prG cur (bs.drop i)))
      (Q := fun o => ∃ x2, o = .nx [some (.lst (zs.map .int)), some (.ref 0), x2] [.lst ((prF bs).map pairV)]) ?_ ?_ ?_ ?_ ?_
    · rintro i ρ μ' _
      rfl
    · rw [List.length_map]; unfold lid; omega
    · exact ⟨[], _, rfl, rfl, Nat.le_refl _, .inl ⟨rfl, rfl⟩⟩
    · rintro ρ μ' ⟨acc, x2, rfl, rfl, _, hh⟩
      rw [List.length_map] at hh
      rcases hh with ⟨h0, rfl⟩ | ⟨done, cur, rfl, hh⟩
      · have : bs = [] := List.eq_nil_of_length_eq_zero h0
        rw [this]
        exact ⟨_, rfl⟩
      · rw [List.drop_length] at hh
        rw [hh]
        exact ⟨_, rfl⟩
    · rintro i y ρ μ' hy ⟨acc, x2, rfl, rfl, hal, hh⟩
      rw [List.getElem?_map] at hy
      cases hg : bs[i]? with
      | none => rw [hg] at hy; cases hy
      | some b =>
        rw [hg] at hy
        cases hy
        obtain ⟨hi, hb2⟩ := List.getElem?_eq_some_iff.mp hg
        refine ⟨[some (.lst (zs.map .int)), some (.ref 0), some (.int b)], [.lst (acc.map pairV)], by simp, ?_⟩
        have hlen : acc.length < 16777216 := by omega
        have hne : ∀ μ, getL μ 0 = some (acc.map pairV) → fNe (.ref 0) (.lst []) μ = .ok (.bl (!acc.isEmpty)) μ := fun μ hm => by
          rw [fNe_ref hm, fNe_prnil (by omega)]
        rcases hh with ⟨rfl, rfl⟩ | ⟨done, cur, rfl, hh⟩
        · have hne2 := hne [.lst []] rfl
          refine turn_nx (ρ := [some (.lst (zs.map .int)), some (.ref 0), some (.int b)]) (μ := [.lst [pairV (b, 1)]]) (by simp [hne2, methL_, fAppend_, pairV]) ⟨[(b, 1)], _, rfl, rfl, by simp, .inr ⟨[], (b, 1), rfl, ?_⟩⟩
          have : bs = b :: bs.drop 1 := by
            have := List.drop_eq_getElem_cons hi
            rw [hb2] at this
            simpa using this
          have e2 : prF (b :: bs.drop 1) = prG (b, 1) (bs.drop 1) := rfl
          rw [← this] at e2
          exact e2
        · rw [List.drop_eq_getElem_cons hi, hb2] at hh
          have hne2 := hne [.lst ((done ++ [cur]).map pairV)] rfl
          have hie : (done ++ [cur]).isEmpty = false := by simp
          rw [hie] at hne2
          have hla : atI ((done ++ [cur]).map pairV) (-1) = some (.tup [.int cur.1, .int cur.2]) := by
            rw [List.map_append]
            exact atI_last _ _
          have hll : ((done ++ [cur]).map pairV).length = done.length + 1 := by simp
          have hh2 : prF bs = done ++ (if cur.1 + cur.2 = b then prG (cur.1, cur.2 + 1) (bs.drop (i + 1)) else cur :: prG (b, 1) (bs.drop (i + 1))) := hh
          have hix : ixN ((done ++ [cur]).map pairV).length (-1) = some done.length := by
            rw [hll]
            unfold ixN
            rw [if_neg (by decide), if_pos (by omega)]
            congr 1
            omega
          have hset : ∀ z : Int × Int, ((done ++ [cur]).map pairV).set done.length (pairV z) = (done ++ [z]).map pairV := fun z => by
            rw [List.map_append, List.map_append, List.set_append_right _ _ (by simp), List.length_map, Nat.sub_self]
            rfl
          by_cases hc : cur.1 + cur.2 = b
          · rw [if_pos hc] at hh2
            have hs2 := hset (cur.1, cur.2 + 1)
            generalize hA : (done ++ [cur]).map pairV = A at *
            refine turn_nx (ρ := [some (.lst (zs.map .int)), some (.ref 0), some (.int b)]) (μ := [.lst ((done ++ [(cur.1, cur.2 + 1)]).map pairV)]) ?_ ⟨done ++ [(cur.1, cur.2 + 1)], _, rfl, rfl, by simp at hal ⊢; omega, .inr ⟨done, (cur.1, cur.2 + 1), rfl, hh2⟩⟩
            simp [hne2, fIx_r, hla, hc, fIx_tup0, fIx_tup1]
            have hss := subSet_ok (ρ := [some (.lst (zs.map .int)), some (.ref 0), some (.int b)]) (l := 0) (xs := A) (k := -1) (j := done.length) (v := .tup [.int cur.1, .int (cur.2 + 1)]) (μ := [.lst A]) rfl hix
            rw [hss, show A.set done.length (.tup [.int cur.1, .int (cur.2 + 1)]) = (done ++ [(cur.1, cur.2 + 1)]).map pairV from hs2, List.map_append]
            rfl
          · rw [if_neg hc] at hh2
            generalize hA : (done ++ [cur]).map pairV = A at *
            refine turn_nx (ρ := [some (.lst (zs.map .int)), some (.ref 0), some (.int b)]) (μ := [.lst ((done ++ [cur] ++ [(b, 1)]).map pairV)]) ?_ ⟨done ++ [cur] ++ [(b, 1)], _, rfl, rfl, by simp at hal ⊢; omega, .inr ⟨done ++ [cur], (b, 1), rfl, by rw [hh2]; simp⟩⟩
            have hll2 : A.length < 16777216 := by rw [hll]; simp at hlen; omega
            have hmm : (done ++ [cur] ++ [(b, 1)]).map pairV = A ++ [pairV (b, 1)] := by rw [List.map_append, hA]; rfl
            rw [hmm]
            have hdl : done.length + 1 < 16777216 := by rw [← hll]; exact hll2
            simp [hne2, fIx_r, hla, hc, methL_, fAppend_, hll2, hdl, pairV, fIx_tup0, fIx_tup1]
  obtain ⟨x2, rfl⟩ := key
  exact ⟨_, by simp [fTuple_r]; rfl⟩
theorem allI_inv : ∀ {xs : List PV} {zs : List Int}, allI xs = some zs → xs = zs.map .int
  | [], zs, h => by cases h; rfl
  | x :: r, zs, h => by
    cases x with
    | int i =>
      have h2 : (allI r).map (fun l => i :: l) = some zs := h
      cases e : allI r with
      | none => rw [e] at h2; cases h2
      | some l =>
        rw [e] at h2
        cases h2
        rw [allI_inv e]; rfl
    | _ => cases h
theorem pairs_up (as : List PV) (v : PV) (_ : as.length = 1) (hv : pairsS as = some v) : Ends false f__law_pairs as v := by
  unfold pairsS at hv
  split at hv
  · rename_i xs _
    cases hx : allI xs with
    | none => rw [hx] at hv; cases hv
    | some zs =>
      rw [hx] at hv
      simp only [Option.bind_some] at hv
      split at hv
      · rename_i hl
        cases hv
        have e : xs = zs.map .int := allI_inv hx
        subst e
        exact ⟨norefL_map fun _ => rfl, pairs_eq hl⟩
      · cases hv
  · cases hv
theorem gpairs {zs : List Int} {μ : Mu} (hl : zs.length ≤ 900) : gZ false pairsS [.lst (zs.map .int)] μ = .ok (.tup ((prF (srtS zs)).map pairV)) μ := gZ_ok (by
    show (noref (.lst (zs.map .int)) && true) = true
    rw [show noref (.lst (zs.map .int)) = true from norefL_map fun _ => rfl]; rfl) (by
  have := allI_map (fun i : Int => i) zs
  rw [List.map_id'] at this
  unfold pairsS
  simp only [this, Option.bind_some]
  rw [if_pos hl])
theorem takC_len : ∀ {xs : St2} {h : Int}, Asc h xs → h + (takC xs).length ≤ endF h xs
  | [], h, _ => by show h + ((0 : Nat) : Int) ≤ h; omega
  | x :: r, h, ⟨a1, a2, a3⟩ => by
    have := takC_len a3
    show h + (((List.range x.2.toNat).map (fun k : Nat => x.1 + k) ++ takC r).length : Int) ≤ endF (x.1 + x.2) r
    rw [List.length_append, List.length_map, List.length_range]
    omega
theorem taken_eq {bs : St2} {μ : Mu} (ha : Asc 0 bs) (hl : bs.length ≤ 1000) (he : endF 0 bs ≤ 1000000) : f__law_taken [.tup (bs.map pairV)] μ = .ok (.lst ((takC bs).map .int)) μ := by
  have hT := takC_len ha
  unfold f__law_taken d__law_taken
  rw [runF_]
  simp
  generalize e : dForN _ _ _ _ _ _ _ = o
  have key : ∃ x2 x3, o = .nx [some (.tup (bs.map pairV)), some (.lst ((takC bs).map .int)), x2, x3] μ := by
    rw [← e]
    refine for_items (items := bs.map pairV) (Inv := fun i ρ μ' => μ' = μ ∧ ∃ (acc : List Int) (x2 x3 : Option PV), ρ = [some (.tup (bs.map pairV)), some (.lst (acc.map .int)), x2, x3] ∧ takC bs = acc ++ takC (bs.drop i))
      (Q := fun o => ∃ x2 x3, o = .nx [some (.tup (bs.map pairV)), some (.lst ((takC bs).map .int)), x2, x3] μ) ?_ ?_ ?_ ?_ ?_
    · rintro i ρ μ' _
      rfl
    · rw [List.length_map]; unfold lid; omega
    · exact ⟨rfl, [], _, _, rfl, rfl⟩
    · rintro ρ μ' ⟨rfl, acc, x2, x3, rfl, hh⟩
      rw [List.length_map, List.drop_length] at hh
      have hz : acc ++ takC [] = acc := List.append_nil acc
      rw [hh, hz]
      exact ⟨_, _, rfl⟩
    · rintro i y ρ μ' hy ⟨rfl, acc, x2, x3, rfl, hh⟩
      rw [List.getElem?_map] at hy
      cases hg : bs[i]? with
      | none => rw [hg] at hy; cases hy
      | some b =>
        rw [hg] at hy
        cases hy
        obtain ⟨hi, hb⟩ := List.getElem?_eq_some_iff.mp hg
        rw [List.drop_eq_getElem_cons hi, hb] at hh
        have hh2 : takC bs = acc ++ ((List.range b.2.toNat).map (fun k : Nat => b.1 + k)) ++ takC (bs.drop (i + 1)) := by
          rw [hh, List.append_assoc]; rfl
        have hb2 := ha.ge b (by rw [← hb]; exact List.getElem_mem _)
        have hlen := congrArg List.length hh2
        rw [List.length_append, List.length_append, List.length_map, List.length_range] at hlen
        have hle : (acc.map PV.int).length + ((List.range b.2.toNat).map fun k : Nat => PV.int (b.1 + k)).length ≤ 16777216 := by
          rw [List.length_map, List.length_map, List.length_range]; omega
        have hbe : b.1 + b.2 ≤ endF 0 bs := ha.endF_ge.2 b (by rw [← hb]; exact List.getElem_mem _)
        have hr : ∀ μ, lstR (.int b.1) (.int (b.1 + b.2)) μ = .ok (.lst ((List.range b.2.toNat).map fun k : Nat => PV.int (b.1 + k))) μ := fun μ => by
          have hr1 : rngP (.int b.1) (.int (b.1 + b.2)) = some ((List.range b.2.toNat).map fun k : Nat => PV.int (b.1 + k)) := by
            unfold rngP
            simp only
            rw [if_pos (by simp only [Bool.and_eq_true, decide_eq_true_eq]; omega), show b.1 + b.2 - b.1 = b.2 by omega]
          unfold lstR
          rw [hr1]
        refine ⟨[some (.tup (bs.map pairV)), some (.lst (acc.map .int)), some (.int b.1), some (.int b.2)], μ', by simp [pairV], ?_⟩
        refine turn_nx (ρ := [some (.tup (bs.map pairV)), some (.lst ((acc ++ (List.range b.2.toNat).map (fun k : Nat => b.1 + k)).map .int)), some (.int b.1), some (.int b.2)]) (μ := μ') ?_ ⟨rfl, _, _, _, rfl, hh2⟩
        have hmm : (acc ++ (List.range b.2.toNat).map (fun k : Nat => b.1 + (k : Int))).map PV.int = acc.map PV.int ++ (List.range b.2.toNat).map fun k : Nat => PV.int (b.1 + k) := by rw [List.map_append, List.map_map]; rfl
        rw [hmm]
        simp [hr, fAdd_lst hle]
  obtain ⟨x2, x3, rfl⟩ := key
  simp
theorem isstays_eq {bs : St2} {μ : Mu} (ha : Asc 0 bs) (hl : bs.length ≤ 1000) : f_is_stays [.tup (bs.map pairV)] μ = .ok (.bl true) μ := by
  unfold f_is_stays d_is_stays
  rw [runF_]
  have hi : ∀ xs μ, fIsi "tuple" (.tup xs) μ = .ok (.bl true) μ := fun _ _ => rfl
  simp [hi]
  generalize e : dForN _ _ _ _ _ _ _ = o
  have key : ∃ x1 x2, o = .nx [some (.tup (bs.map pairV)), x1, x2, none] μ := by
    rw [← e]
    refine for_items (items := bs.map pairV) (Inv := fun i ρ μ' => μ' = μ ∧ ∃ (h : Int) (x2 : Option PV), ρ = [some (.tup (bs.map pairV)), some (.int h), x2, none] ∧ Asc h (bs.drop i))
      (Q := fun o => ∃ x1 x2, o = .nx [some (.tup (bs.map pairV)), x1, x2, none] μ) ?_ ?_ ?_ ?_ ?_
    · rintro i ρ μ' _
      rfl
    · rw [List.length_map]; unfold lid; omega
    · exact ⟨rfl, 0, _, rfl, ha⟩
    · rintro ρ μ' ⟨rfl, h, x2, rfl, _⟩
      exact ⟨_, _, rfl⟩
    · rintro i y ρ μ' hy ⟨rfl, h, x2, rfl, hh⟩
      rw [List.getElem?_map] at hy
      cases hg : bs[i]? with
      | none => rw [hg] at hy; cases hy
      | some b =>
        rw [hg] at hy
        cases hy
        obtain ⟨hi2, hb⟩ := List.getElem?_eq_some_iff.mp hg
        rw [List.drop_eq_getElem_cons hi2, hb] at hh
        obtain ⟨a1, a2, a3⟩ := hh
        have n1 : ¬ b.1 < h := by omega
        have n2 : ¬ b.2 < 1 := by omega
        refine ⟨[some (.tup (bs.map pairV)), some (.int h), some (pairV b), none], μ', by simp, ?_⟩
        refine turn_nx (ρ := [some (.tup (bs.map pairV)), some (.int (b.1 + b.2)), some (pairV b), none]) (μ := μ') ?_ ⟨rfl, _, _, rfl, a3⟩
        have hlc : ∀ μ, dLcN (jTup [.int b.1, .int b.2]) (gcN 3) dYes (dCall 1 f_is_number (dCons (dVar 3) dNil)) [some (.tup (bs.map pairV)), some (.int h), some (.tup [.int b.1, .int b.2]), none] lid 0 μ = .ok [.bl true, .bl true] μ := fun μ => by
          rw [lc_tup (by simp)]
          simp [isnum_eq]
        have hfa : ∀ μ, fAll [.lst [.bl true, .bl true]] μ = .ok (.bl true) μ := fun _ => rfl
        simp [pairV, hi, fIx_tup0, fIx_tup1, n1, n2, wipeP, hlc, hfa]
  obtain ⟨x1, x2, rfl⟩ := key
  simp
theorem many_eq {bs : St2} {s : Int} {μ : Mu} (hl : bs.length ≤ 1000) : f_how_many_places [.tup (bs.map pairV), .int s] μ = .ok (.int (((holF 0 bs).map fun g => if g.2 - s + 1 > 0 then g.2 - s + 1 else 0).sum)) μ := by
  have hh : ∀ μ, gZ false holesS [.tup (bs.map pairV)] μ = .ok (.tup ((holF 0 bs).map pairV)) μ := fun μ => gholes (by omega)
  have hol := hol_len (bs := bs) (h := 0)
  unfold f_how_many_places d_how_many_places
  rw [runF_]
  simp [hh]
  rw [lc_ty (fun g : Int × Int => .int (if g.2 - s + 1 > 0 then g.2 - s + 1 else 0)) (by omega) (fun g _ => ⟨_, rfl, by simp [wipeP]⟩)]
  have := fSum_lst (μ := μ) (allI_map (fun g : Int × Int => if g.2 - s + 1 > 0 then g.2 - s + 1 else 0) (holF 0 bs))
  simp [wipeP]
  simp at this
  rw [this]
  simp

end GB
set_option Elab.async false
set_option exponentiation.threshold 20000
set_option linter.all false
set_option maxRecDepth 100000
set_option maxHeartbeats 4000000
namespace GB
open PySem PySem.Spec PyProof.Rows L2
end GB
set_option Elab.async false
set_option exponentiation.threshold 20000
set_option linter.all false
set_option maxRecDepth 100000
set_option maxHeartbeats 2000000
namespace GB
open PySem L2
theorem lawrow_0 {bs : St2} {p q c a : Int} {μ : Mu} (h1 : 1 ≤ a) (ha : Asc 0 bs) (hl : bs.length ≤ 1000) : f__law_lowest [.tup (bs.map pairV), .int a] μ = .ok (.int (rowP bs p q c a 0)) μ := by
  rw [lawlow_eq (.inl rfl) (by omega), sortL_id ha, lowL_eq h1 ha]
  rfl
theorem lawlow_F {bs : St2} {s : Int} {μ : Mu} (h1 : 1 ≤ s) (ha : Asc 0 bs) (hl : bs.length ≤ 1000) : f__law_lowest [.tup (bs.map pairV), .int s] μ = .ok (.int (lowF 0 bs s)) μ := by
  rw [lawlow_eq (.inl rfl) (by omega), sortL_id ha, lowL_eq h1 ha]
theorem lawlow_B {bs : St2} {b : Int × Int} {s : Int} {μ : Mu} (h1 : 1 ≤ s) (ha : Asc 0 (tkn bs b)) (hl : bs.length ≤ 1000) : f__law_lowest [.lst (bs.map pairV ++ [pairV b]), .int s] μ = .ok (.int (lowF 0 (tkn bs b) s)) μ := by
  have e : bs.map pairV ++ [pairV b] = (bs ++ [b]).map pairV := by rw [List.map_append]; rfl
  rw [e, lawlow_eq (.inr rfl) (by rw [List.length_append, List.length_singleton]; omega)]
  show R.ok (PV.int (lowL 0 (tkn bs b) s)) μ = _
  rw [lowL_eq h1 ha]
theorem among_eq {bs : St2} {p q c a : Int} {n : Nat} (hl : bs.length ≤ 1000) (ha : Asc 0 bs) (h : OkS p q c a n) :
    ∃ l μ', f__law_among [rl p q c, .tup (bs.map pairV), .int a, .int n] [] = .ok (.ref l) μ' ∧ getM μ' l = some (rowsL bs p q c a n) := by
  have hn := h.n1
  have hR : ∀ μ, rng1 [.int (n : Int)] μ = .ok (jRng 0 n) μ := fun μ => by
    have := rng1_ok (j := (n : Int)) (μ := μ) (by omega) (by omega)
    rwa [Int.toNat_natCast] at this
  have h0 : ∀ μ, f__law_lowest [.tup (bs.map pairV), .int a] μ = .ok (.int (rowP bs p q c a 0)) μ := fun μ => lawrow_0 h.a1 ha hl
  unfold f__law_among d__law_among
  rw [runF_]
  simp [h0, hR]
  generalize e : dForN _ _ _ _ _ _ _ = o
  have key : ∃ x4 x6, o = .nx [some (rl p q c), some (.tup (bs.map pairV)), some (.int a), some (.int n), x4, some (.ref 0), x6] [.lst ((rowX bs p q c a (n + 1)).map pairV)] := by
    rw [← e]
    refine for_rng (n := n) (Inv := fun i ρ μ' => ∃ (x4 : Option PV), ρ = [some (rl p q c), some (.tup (bs.map pairV)), some (.int a), some (.int n), x4, some (.ref 0), some (.int (sz p q c a i))] ∧ μ' = [.lst ((rowX bs p q c a (i + 1)).map pairV)])
      (Q := fun o => ∃ x4 x6, o = .nx [some (rl p q c), some (.tup (bs.map pairV)), some (.int a), some (.int n), x4, some (.ref 0), x6] [.lst ((rowX bs p q c a (n + 1)).map pairV)]) (by unfold lid; omega) ⟨_, rfl, rfl⟩ ?_ ?_
    · rintro ρ μ' ⟨x4, rfl, rfl⟩
      exact ⟨_, _, rfl⟩
    · rintro i ρ μ' hi ⟨x4, rfl, rfl⟩
      have hS : rowX bs p q c a (i + 1 + 1) = rowX bs p q c a (i + 1) ++ [(rowP bs p q c a (i + 1), sz p q c a (i + 1))] := rowX_S bs p q c a (i + 1)
      have hla : atI ((rowX bs p q c a (i + 1)).map pairV) (-1) = some (pairV (rowP bs p q c a i, sz p q c a i)) := by
        rw [rowX_S, List.map_append]
        exact atI_last _ _
      have hB : ∀ μ, f__law_lowest [.lst (bs.map pairV ++ [pairV (rowP bs p q c a i, sz p q c a i)]), .int (sz p q c a (i + 1))] μ = .ok (.int (rowP bs p q c a (i + 1))) μ := fun μ => lawlow_B (sz_pos h.r h.a1 h.st (i + 1)) (row_tkn h.r h.a1 h.st ha i) hl
      have hlen : ((rowX bs p q c a (i + 1)).map pairV).length < 16777216 := by rw [List.length_map, rowX_len]; omega
      have hle : (bs.map pairV).length + [pairV (rowP bs p q c a i, sz p q c a i)].length ≤ 16777216 := by rw [List.length_map]; simp; omega
      have hnx : nxt p q c (sz p q c a i) = sz p q c a (i + 1) := rfl
      refine ⟨_, _, rfl, ?_⟩
      refine turn_nx (ρ := [some (rl p q c), some (.tup (bs.map pairV)), some (.int a), some (.int n), some (.int (0 + (i : Nat))), some (.ref 0), some (.int (sz p q c a (i + 1)))]) (μ := [.lst ((rowX bs p q c a (i + 1 + 1)).map pairV)]) ?_ ⟨_, rfl, rfl⟩
      rw [hS, List.map_append]
      generalize hA : (rowX bs p q c a (i + 1)).map pairV = A at *
      simp only [pairV] at hB hle hla
      simp [lnext_eq h.r, hnx, fIx_r, hla, fAdd_lst hle, hB, methL_, fAppend_, hlen, pairV]
  obtain ⟨x4, x6, rfl⟩ := key
  exact ⟨0, _, by simp; rfl, by rw [rowsL_X]; rfl⟩
theorem among_up (as : List PV) (v : PV) (_ : as.length = 4) (hv : amongS as = some v) : Ends true f__law_among as v := by
  unfold amongS at hv
  split at hv
  · rename_i p q c xs a n _
    cases hx : allPr xs with
    | none => rw [hx] at hv; cases hv
    | some bs =>
      rw [hx] at hv
      simp only [Option.bind_some] at hv
      split at hv
      · rename_i hl
        cases hv
        rw [Bool.and_eq_true] at hl
        obtain ⟨h1, h2⟩ := hl
        unfold stO2 at h2
        rw [Bool.and_eq_true, decide_eq_true_eq, ascB_iff] at h2
        have hk := okS_of h1
        have h3 := hk.n0
        have ex := allPr_inv hx
        subst ex
        obtain ⟨l, μ', e1, e2⟩ := among_eq (n := n.toNat) h2.2 h2.1 (by rw [Int.toNat_of_nonneg h3]; exact hk)
        rw [Int.toNat_of_nonneg h3] at e1
        exact ⟨_, l, μ', rfl, norefL_map fun _ => rfl, e1, e2⟩
      · cases hv
  · cases hv
theorem gamong {bs : St2} {p q c a : Int} {n : Nat} {μ : Mu} (hl : bs.length ≤ 1000) (ha : Asc 0 bs) (h : OkS p q c a n) : gZ true amongS [rl p q c, .tup (bs.map pairV), .int a, .int n] μ = .ok (.lst (rowsL bs p q c a n)) μ := gZ_ok (by
    show (noref (rl p q c) && (noref (.tup (bs.map pairV)) && true)) = true
    rw [nrf_tup]; rfl) (by
  show (allPr (bs.map pairV)).bind _ = _
  rw [allPr_map]
  simp only [Option.bind_some]
  have h2 : stO2 bs = true := by
    unfold stO2
    rw [Bool.and_eq_true, decide_eq_true_eq, ascB_iff]
    exact ⟨ha, hl⟩
  rw [h2, okS_mk h.r h.a1 h.st h.n0 h.n1]
  rfl)

end GB
set_option Elab.async false
set_option exponentiation.threshold 20000
set_option linter.all false
set_option maxRecDepth 100000
set_option maxHeartbeats 4000000
namespace GB
open PySem PySem.Spec PyProof.Rows L2
end GB
set_option Elab.async false
set_option exponentiation.threshold 20000
set_option linter.all false
set_option maxRecDepth 100000
set_option maxHeartbeats 2000000
namespace GB
open PySem L2
theorem ninX_int {zs : List Int} {i : Int} {μ : Mu} (h : zs.length ≤ 900) : fNinX (.int i) (.lst (zs.map .int)) μ = .ok (.bl (!decide (i ∈ zs))) μ := by
  have e : (zs.map PV.int).any (fun z => eqP z (.int i)) = decide (i ∈ zs) := by
    rw [Bool.eq_iff_iff, List.any_eq_true, decide_eq_true_eq]
    constructor
    · rintro ⟨z, hz, he⟩
      obtain ⟨j, hj, rfl⟩ := List.mem_map.mp hz
      have := (eqP_iff (x := .int j) rfl).mp he
      injection this with this
      rwa [← this]
    · intro hk
      exact ⟨.int i, List.mem_map.mpr ⟨i, hk, rfl⟩, eqP_refl rfl⟩
  have hc : cmpOk (.lst (zs.map .int)) := ints_cmp (f := fun i : Int => i) h
  unfold fNinX
  rw [anyX_lst rfl (noBL_map fun _ => rfl) ⟨by simp [fz], by simp [dep]⟩ hc, e]
theorem lots_core {bs cs : St2} (ha : Asc 0 bs) (hb : Asc 0 cs) (hl : bs.length ≤ 6) (hl2 : cs.length ≤ 6) (he : endF 0 bs ≤ 300) (he2 : endF 0 cs ≤ 300) :
    ∃ μ', f__law_lots_right [.tup (bs.map pairV), .tup (cs.map pairV)] [] = .ok (.bl true) μ' := by
  have hE0 := ha.endF_ge.1
  have tl1 := takC_len ha
  have tl2 := takC_len hb
  have hT : ∀ μ, f__law_taken [.tup (bs.map pairV)] μ = .ok (.lst ((takC bs).map .int)) μ := fun μ => taken_eq ha (by omega) (by omega)
  have hT2 : ∀ μ, f__law_taken [.tup (cs.map pairV)] μ = .ok (.lst ((takC cs).map .int)) μ := fun μ => taken_eq hb (by omega) (by omega)
  have hall : allI (.int 0 :: (takC bs).map fun z => PV.int (z + 1)) = some (0 :: (takC bs).map (· + 1)) := by
    have := allI_map (fun i : Int => i) (0 :: (takC bs).map (· + 1))
    rw [List.map_cons, List.map_map, List.map_cons, List.map_map] at this
    exact this
  have hmax : ∀ μ, fMax [.lst (.int 0 :: (takC bs).map fun z => PV.int (z + 1))] μ = .ok (.int (endF 0 bs)) μ := fun μ => by
    rw [fMax_lst hall, max_end ha]
  have hS : ∀ μ, f_is_stays [.tup (bs.map pairV)] μ = .ok (.bl true) μ := fun μ => isstays_eq ha (by omega)
  have hEn : ∀ μ, f_end_of [.tup (bs.map pairV)] μ = .ok (.int (endF 0 bs)) μ := fun μ => endof_eq
  have hH : ∀ μ, gZ false holesS [.tup (bs.map pairV)] μ = .ok (.tup ((holF 0 bs).map pairV)) μ := fun μ => gholes (by omega)
  have hF : ∀ μ, gZ false plainS [.tup (bs.map pairV)] μ = .ok (.tup ((plainT bs).map pairV)) μ := fun μ => gplain (by omega)
  have hB1 : ∀ μ, f_both_stays [.tup (bs.map pairV), .tup (cs.map pairV)] μ = .ok (.tup ((plainT (sortL (bs ++ cs))).map pairV)) μ := fun μ => both_eq (by omega) (by omega)
  have hB2 : ∀ μ, f_both_stays [.tup (cs.map pairV), .tup (bs.map pairV)] μ = .ok (.tup ((plainT (sortL (bs ++ cs))).map pairV)) μ := fun μ => by
    rw [both_eq (by omega) (by omega), both_comm]
  have hP1 : ∀ μ, gZ false pairsS [.lst ((takC bs).map .int)] μ = .ok (.tup ((plainT bs).map pairV)) μ := fun μ => by
    rw [gpairs (by omega), tak_plain ha]
  have hP2 : ∀ μ, gZ false pairsS [.lst ((takC bs).map .int ++ (takC cs).map .int)] μ = .ok (.tup ((plainT (sortL (bs ++ cs))).map pairV)) μ := fun μ => by
    rw [← List.map_append, gpairs (by rw [List.length_append]; omega), tak_both ha hb]
  have hni : ∀ i μ, fNinX (.int i) (.lst ((takC bs).map .int)) μ = .ok (.bl (!decide (i ∈ takC bs))) μ := fun i μ => ninX_int (by omega)
  have hFr : ∀ μ, gZ false pairsS [.lst (((List.range (endF 0 bs).toNat).filter fun k : Nat => !decide ((k : Int) ∈ takC bs)).map fun k : Nat => PV.int (k : Int))] μ = .ok (.tup ((holF 0 bs).map pairV)) μ := fun μ => by
    have e : (((List.range (endF 0 bs).toNat).filter fun k : Nat => !decide ((k : Int) ∈ takC bs)).map fun k : Nat => PV.int (k : Int)) = (((List.range (endF 0 bs).toNat).filter fun k : Nat => !decide ((k : Int) ∈ takC bs)).map fun k : Nat => (k : Int)).map PV.int := by rw [List.map_map]; rfl
    rw [e, gpairs (by
      rw [List.length_map]
      have := List.length_filter_le (fun k : Nat => !decide ((k : Int) ∈ takC bs)) (List.range (endF 0 bs).toNat)
      rw [List.length_range] at this
      omega), free_holes ha fun z => ?_]
    rw [List.mem_map]
    constructor
    · rintro ⟨k, hk, rfl⟩
      obtain ⟨k1, k2⟩ := List.mem_filter.mp hk
      have := List.mem_range.mp k1
      exact ⟨by omega, by omega, by simpa using k2⟩
    · rintro ⟨z1, z2, z3⟩
      refine ⟨z.toNat, List.mem_filter.mpr ⟨List.mem_range.mpr (by omega), ?_⟩, by omega⟩
      rw [Int.toNat_of_nonneg z1]
      simp [z3]
  have hr1 : ∀ μ, rng1 [.int (endF 0 bs)] μ = .ok (jRng 0 (endF 0 bs).toNat) μ := fun μ => rng1_ok (by omega) (by omega)
  have tln : (takC bs).length ≤ 300 := by omega
  have tln2 : (takC cs).length ≤ 300 := by omega
  have hadd : ∀ μ, fAdd (.lst [.int 0]) (.lst ((takC bs).map fun z => PV.int (z + 1))) μ = .ok (.lst (.int 0 :: (takC bs).map fun z => PV.int (z + 1))) μ := fun μ => fAdd_lst (by rw [List.length_map]; simp; omega)
  have hadd2 : ∀ μ, fAdd (.lst ((takC bs).map .int)) (.lst ((takC cs).map .int)) μ = .ok (.lst ((takC bs).map .int ++ (takC cs).map .int)) μ := fun μ => fAdd_lst (by rw [List.length_map, List.length_map]; omega)
  unfold f__law_lots_right d__law_lots_right
  rw [runF_]
  simp [hT]
  rw [lc_ty (fun z : Int => .int (z + 1)) (by omega) (fun z _ => ⟨_, rfl, by simp [wipeP]⟩)]
  simp [wipeP, hadd, hmax, hr1]
  rw [lc_rngF (fun k : Nat => !decide ((k : Int) ∈ takC bs)) (fun k : Nat => .int (k : Int)) (by omega) (fun k _ => ⟨_, rfl, by simp [wipeP, hni], fun _ => by simp [wipeP]⟩)]
  simp [wipeP, hFr, hS, hEn, hH, hF, hB1, hB2, hT2, hadd2, hP1, hP2, methL_, fAppend_]
  have hr2 : ∀ μ, rng2 [.int 1, .int 9] μ = .ok (jRng 1 8) μ := fun μ => rng2_ok (by decide) (by decide) (by decide) (by decide)
  simp only [hr2, R.thn_ok]
  have prT : ∀ L : St2, L.length < 1000000 → smp 5 (.tup (L.map pairV)) = true := fun L h => smp_rowT h fun _ => rfl
  have hol := hol_len (bs := bs) (h := 0)
  have pll : ∀ xs : St2, (plainT xs).length ≤ xs.length := fun xs => by
    have gen : ∀ (r : St2) (cur : Int × Int), (plainG cur r).length ≤ r.length + 1 := fun r => by
      induction r with
      | nil => exact fun cur => Nat.le_refl _
      | cons x r ih =>
        intro cur
        unfold plainG
        split
        · have := ih (cur.1, (if x.1 + x.2 > cur.1 + cur.2 then x.1 + x.2 else cur.1 + cur.2) - cur.1)
          simp only [List.length_cons]; omega
        · have := ih x
          simp only [List.length_cons]; omega
    cases xs with
    | nil => exact Nat.le_refl _
    | cons x r => exact gen r x
  have pb := pll bs
  have pbc := pll (sortL (bs ++ cs))
  rw [(sortL_perm _).length_eq, List.length_append] at pbc
  have hz0 : smpL 5 [PV.bl true, .int (endF 0 bs), .tup ((holF 0 bs).map pairV), .tup ((plainT bs).map pairV), .tup ((plainT (sortL (bs ++ cs))).map pairV), .tup ((plainT (sortL (bs ++ cs))).map pairV)] = true := smpL_of (by
    simp only [List.mem_cons, List.not_mem_nil, or_false, forall_eq_or_imp, forall_eq]
    exact ⟨rfl, rfl, prT _ (by omega), prT _ (by omega), prT _ (by omega), prT _ (by omega)⟩)
  generalize hT0 : [PV.bl true, PV.int (endF 0 bs), .tup ((holF 0 bs).map pairV), .tup ((plainT bs).map pairV), .tup ((plainT (sortL (bs ++ cs))).map pairV), .tup ((plainT (sortL (bs ++ cs))).map pairV)] = T0 at *
  have hT0l : T0.length = 6 := by rw [← hT0]; rfl
  have hMany : ∀ s μ, f_how_many_places [.tup (bs.map pairV), .int s] μ = .ok (.int (((holF 0 bs).map fun g => if g.2 - s + 1 > 0 then g.2 - s + 1 else 0).sum)) μ := fun s μ => many_eq (by omega)
  have hLow : ∀ s μ, f_lowest_place [.tup (bs.map pairV), .int s] μ = .ok (.int (lowF 0 bs s)) μ := fun s μ => lowest_eq (.inl rfl) (by omega)
  have hLaw : ∀ s μ, 1 ≤ s → f__law_lowest [.tup (bs.map pairV), .int s] μ = .ok (.int (lowF 0 bs s)) μ := fun s μ hs => lawlow_F hs ha (by omega)
  generalize hV6 : PV.tup ((plainT (sortL (bs ++ cs))).map pairV) = V6 at *
  generalize e : dForN _ _ _ _ _ _ _ = o
  have key : ∃ (T : List PV) (μ0 : Mu) (x8 : Option PV), o = .nx [some (.tup (bs.map pairV)), some (.tup (cs.map pairV)), some (.lst ((takC bs).map .int)), some (.int (endF 0 bs)), some (.tup ((holF 0 bs).map pairV)), some (.ref μ0.length), some V6, some (.lst T), x8, none, none, none, none] (μ0 ++ [.lst T]) ∧ smpL 5 T = true ∧ T.length = 22 := by
    rw [← e]
    refine for_rng (n := 8) (Inv := fun i ρ μ' => ∃ (T : List PV) (μ0 : Mu) (x8 : Option PV), ρ = [some (.tup (bs.map pairV)), some (.tup (cs.map pairV)), some (.lst ((takC bs).map .int)), some (.int (endF 0 bs)), some (.tup ((holF 0 bs).map pairV)), some (.ref μ0.length), some V6, some (.lst T), x8, none, none, none, none] ∧ μ' = μ0 ++ [.lst T] ∧ smpL 5 T = true ∧ T.length = 6 + 2 * i)
      (Q := fun o => ∃ (T : List PV) (μ0 : Mu) (x8 : Option PV), o = .nx [some (.tup (bs.map pairV)), some (.tup (cs.map pairV)), some (.lst ((takC bs).map .int)), some (.int (endF 0 bs)), some (.tup ((holF 0 bs).map pairV)), some (.ref μ0.length), some V6, some (.lst T), x8, none, none, none, none] (μ0 ++ [.lst T]) ∧ smpL 5 T = true ∧ T.length = 22) (by unfold lid; omega) ⟨T0, [], none, rfl, rfl, hz0, by rw [hT0l]⟩ ?_ ?_
    · rintro ρ μ' ⟨T, μ0, x8, rfl, rfl, t1, t2⟩
      exact ⟨T, μ0, x8, rfl, t1, t2⟩
    · rintro i ρ μ' hi ⟨T, μ0, x8, rfl, rfl, t1, t2⟩
      refine ⟨_, _, rfl, ?_⟩
      have hTn : (T ++ [PV.int (((holF 0 bs).map fun g => if g.2 - (1 + (i : Int)) + 1 > 0 then g.2 - (1 + (i : Int)) + 1 else 0).sum), PV.int (lowF 0 bs (1 + (i : Int)))]).length = 6 + 2 * (i + 1) := by simp; omega
      have hTz : smpL 5 (T ++ [PV.int (((holF 0 bs).map fun g => if g.2 - (1 + (i : Int)) + 1 > 0 then g.2 - (1 + (i : Int)) + 1 else 0).sum), PV.int (lowF 0 bs (1 + (i : Int)))]) = true := smpL_of fun x hx => by
        rcases List.mem_append.mp hx with z | z
        · exact smpL_mem t1 x z
        · simp only [List.mem_cons, List.not_mem_nil, or_false] at z
          rcases z with rfl | rfl <;> rfl
      have hsum := fun μ => fSum_lst (μ := μ) (allI_map (fun g : Int × Int => if g.2 - (1 + (i : Int)) + 1 > 0 then g.2 - (1 + (i : Int)) + 1 else 0) (holF 0 bs))
      have hgl : lstP (.ref μ0.length) (μ0 ++ [.lst T]) = some T := getL_last
      refine turn_nx (ρ := [some (.tup (bs.map pairV)), some (.tup (cs.map pairV)), some (.lst ((takC bs).map .int)), some (.int (endF 0 bs)), some (.tup ((holF 0 bs).map pairV)), some (.ref (μ0 ++ [Ob.lst T]).length), some V6, some (.lst (T ++ [PV.int (((holF 0 bs).map fun g => if g.2 - (1 + (i : Int)) + 1 > 0 then g.2 - (1 + (i : Int)) + 1 else 0).sum), PV.int (lowF 0 bs (1 + (i : Int)))])), some (.int (1 + (i : Int))), none, none, none, none]) (μ := (μ0 ++ [Ob.lst T]) ++ [.lst (T ++ [PV.int (((holF 0 bs).map fun g => if g.2 - (1 + (i : Int)) + 1 > 0 then g.2 - (1 + (i : Int)) + 1 else 0).sum), PV.int (lowF 0 bs (1 + (i : Int)))])]) ?_ ⟨_, _, _, rfl, rfl, hTz, hTn⟩
      have hlL : ∀ μ, f__law_lowest [.tup (bs.map pairV), .int (1 + (i : Int))] μ = .ok (.int (lowF 0 bs (1 + (i : Int)))) μ := fun μ => hLaw _ μ (by omega)
      generalize hss : (((holF 0 bs).map fun g => if g.2 - (1 + (i : Int)) + 1 > 0 then g.2 - (1 + (i : Int)) + 1 else 0).sum) = SS at *
      have hM2 : ∀ μ, f_how_many_places [.tup (bs.map pairV), .int (1 + (i : Int))] μ = .ok (.int SS) μ := fun μ => by rw [hMany, hss]
      have htl : T.length + 2 ≤ 16777216 := by omega
      have hgL : getL (μ0 ++ [.lst T]) μ0.length = some T := getL_last
      have hag : ∀ x y : PV, fAdd (.lst T) (.lst [x, y]) (μ0 ++ [Ob.lst T, Ob.lst (T ++ [x, y])]) = .ok (.lst (T ++ [x, y])) (μ0 ++ [Ob.lst T, Ob.lst (T ++ [x, y])]) := fun x y => fAdd_lst htl
      simp [hM2, hLow, fAddT_, hgL, lstP, hlL, htl]
      rw [lc_ty (fun g : Int × Int => .int (if g.2 - (1 + (i : Int)) + 1 > 0 then g.2 - (1 + (i : Int)) + 1 else 0)) (by omega) (fun g _ => ⟨_, rfl, by simp [wipeP]⟩)]
      simp only [R.bind_ok]
      simp [wipeP]
      simp at hsum
      simp at hss
      simp [hsum, hlL, hag, hss]
  obtain ⟨T, μ0, x8, rfl, t1, t2⟩ := key
  have hf3 := low_spec (s := 3) (by decide) ha
  have hAb : Asc 0 (tkn bs (lowF 0 bs 3, 3)) := tkn_asc (b := (lowF 0 bs 3, 3)) ha hf3.1 (by show (1 : Int) ≤ 3; decide) hf3.2.1
  have hL3 : ∀ μ, f__law_lowest [.tup (bs.map pairV), .int 3] μ = .ok (.int (lowF 0 bs 3)) μ := fun μ => hLaw 3 μ (by decide)
  have hBes : ∀ s μ, f_lowest_beside [.tup (bs.map pairV), pairV (lowF 0 bs 3, 3), .int s] μ = .ok (.int (lowF 0 (tkn bs (lowF 0 bs 3, 3)) s)) μ := fun s μ => beside_eq (by omega)
  have hLB : ∀ s μ, 1 ≤ s → f__law_lowest [.lst (bs.map pairV ++ [pairV (lowF 0 bs 3, 3)]), .int s] μ = .ok (.int (lowF 0 (tkn bs (lowF 0 bs 3, 3)) s)) μ := fun s μ hs => lawlow_B hs hAb (by omega)
  generalize hLL : (List.range 8).map (fun k : Nat => PV.int (lowF 0 (tkn bs (lowF 0 bs 3, 3)) (1 + (k : Int)))) = L8
  have hTL : smpL 5 (T ++ [.lst L8]) = true := smpL_of fun x hx => by
    rcases List.mem_append.mp hx with z | z
    · exact smpL_mem t1 x z
    · rw [List.mem_singleton] at z
      subst z
      rw [← hLL]
      exact smp_rows (n := 4) (by rw [List.length_range]; omega) fun _ => rfl
  have hD6 : smp 6 (.lst (T ++ [.lst L8])) = true := by
    show (decide ((T ++ [PV.lst L8]).length < 1000000) && smpL 5 (T ++ [.lst L8])) = true
    rw [hTL, decide_eq_true (by simp; omega)]; rfl
  have hDn := smp_noref 6 hD6
  have gs := gsame (x := .ref μ0.length) (y := .lst (T ++ [.lst L8])) (μ := μ0 ++ [.lst (T ++ [.lst L8])]) (rs_ref getL_last hDn) (rsW_noref _ hDn) hD6
  have gl := getL_last (μ := μ0) (acc := T)
  have gm := getM_last (μ := μ0) (acc := T)
  have hTl2 : T.length < 16777216 := by omega
  have hfa := fAppend_ok (y := .lst L8) gm hTl2
  rw [set_last] at hfa
  have hbe : PV.tup [.int (lowF 0 bs 3), .int 3] = pairV (lowF 0 bs 3, 3) := rfl
  have hfl : ∀ μ, fAdd (.lst (bs.map pairV)) (.lst [pairV (lowF 0 bs 3, 3)]) μ = .ok (.lst (bs.map pairV ++ [pairV (lowF 0 bs 3, 3)])) μ := fun μ => fAdd_lst (by rw [List.length_map]; simp; omega)
  have hfT : ∀ μ, fAdd (.lst T) (.lst [.lst L8]) μ = .ok (.lst (T ++ [.lst L8])) μ := fun μ => fAdd_lst (by simp; omega)
  simp [hL3, hr2]
  rw [hbe]
  rw [lc_rng (fun k : Nat => .int (lowF 0 (tkn bs (lowF 0 bs 3, 3)) (1 + (k : Int)))) (by decide) (fun k _ => ⟨_, rfl, by simp [wipeP, hBes]⟩)]
  rw [hLL]
  simp [wipeP, methL_ok gl, hfa, hr2]
  rw [lc_rng (fun k : Nat => .int (lowF 0 (tkn bs (lowF 0 bs 3, 3)) (1 + (k : Int)))) (by decide) (fun k _ => ⟨_, rfl, by
    have hq := fun μ => hLB (1 + (k : Int)) μ (by omega)
    simp [wipeP, hfl, hq]⟩)]
  rw [hLL]
  simp [wipeP, hfT, gs]
theorem stO3_of {bs : St2} (h : stO3 bs = true) : Asc 0 bs ∧ bs.length ≤ 6 ∧ endF 0 bs ≤ 300 := by
  unfold stO3 at h
  rw [Bool.and_eq_true, Bool.and_eq_true, decide_eq_true_eq, decide_eq_true_eq, ascB_iff] at h
  exact ⟨h.1.1, h.1.2, h.2⟩
theorem stO3_mk {bs : St2} (h1 : Asc 0 bs) (h2 : bs.length ≤ 6) (h3 : endF 0 bs ≤ 300) : stO3 bs = true := by
  unfold stO3
  rw [Bool.and_eq_true, Bool.and_eq_true, decide_eq_true_eq, decide_eq_true_eq, ascB_iff]
  exact ⟨⟨h1, h2⟩, h3⟩
theorem lots_up (as : List PV) (v : PV) (_ : as.length = 2) (hv : lots12 as = some v) : Ends false f__law_lots_right as v := by
  unfold lots12 at hv
  split at hv
  · rename_i xs ys _
    cases hx : allPr xs with
    | none => rw [hx] at hv; cases hv
    | some bs =>
      rw [hx] at hv
      simp only [Option.bind_some] at hv
      cases hy : allPr ys with
      | none => rw [hy] at hv; cases hv
      | some cs =>
        rw [hy] at hv
        simp only [Option.bind_some] at hv
        split at hv
        · rename_i hl
          cases hv
          rw [Bool.and_eq_true] at hl
          obtain ⟨a1, a2, a3⟩ := stO3_of hl.1
          obtain ⟨b1, b2, b3⟩ := stO3_of hl.2
          have ex := allPr_inv hx
          have ey := allPr_inv hy
          subst ex ey
          exact ⟨rfl, lots_core a1 b1 a2 b2 a3 b3⟩
        · cases hv
  · cases hv
theorem glots {bs cs : St2} {μ : Mu} (h1 : stO3 bs = true) (h2 : stO3 cs = true) : gZ false lots12 [.tup (bs.map pairV), .tup (cs.map pairV)] μ = .ok (.bl true) μ := gZ_ok (by
    show (noref (.tup (bs.map pairV)) && (noref (.tup (cs.map pairV)) && true)) = true
    rw [nrf_tup, nrf_tup]; rfl) (by
  show (allPr (bs.map pairV)).bind _ = _
  rw [allPr_map]
  simp only [Option.bind_some, allPr_map, h1, h2, Bool.and_self, if_true])

end GB
set_option Elab.async false
set_option exponentiation.threshold 20000
set_option linter.all false
set_option maxRecDepth 100000
set_option maxHeartbeats 4000000
namespace GB
open PySem PySem.Spec PyProof.Rows L2
end GB
set_option Elab.async false
set_option exponentiation.threshold 20000
set_option linter.all false
set_option maxRecDepth 100000
set_option maxHeartbeats 2000000
namespace GB
open PySem L2
theorem asc_lexP : ∀ {xs : St2} {h : Int}, Asc h xs → xs.Pairwise lexP
  | [], _, _ => List.Pairwise.nil
  | y :: r, h, ⟨h1, h2, h3⟩ => List.pairwise_cons.mpr ⟨fun x hx => by
    have := (h3.ge x hx).1
    unfold lexP; omega, asc_lexP h3⟩
theorem hol_asc {bs : St2} (ha : Asc 0 bs) : Asc 0 (holF 0 bs) := (hol_sep ha).asc
theorem used_len1 {bs : St2} {p q c a : Int} (ha : Asc 0 bs) : (usedL bs p q c a).length ≤ stK bs p q c a := by
  have gen : ∀ ks : List Nat, (ks.flatMap (usedG bs p q c a)).length ≤ ks.length := fun ks => by
    induction ks with
    | nil => simp
    | cons k ks ih =>
      rw [List.flatMap_cons, List.length_append, List.length_cons]
      have : (usedG bs p q c a k).length ≤ 1 := asc_one (hol_asc ha)
      omega
  have hk : (aheadK bs p q c a).length ≤ stK bs p q c a := by
    have := aheadX_len bs p q c a (stK bs p q c a)
    unfold aheadX at this
    rwa [List.length_map] at this
  exact Nat.le_trans (gen _) hk
/-- the rows whose block lies in a hole -/
def inK (bs : St2) (p q c a : Int) (g : Int × Int) : List Nat := (List.range 61).filter fun k => decide (g.1 ≤ rowP bs p q c a k) && decide (rowP bs p q c a k < g.1 + g.2)
theorem used_61 {bs : St2} {p q c a : Int} (h : Rk p q c) (h1 : 1 ≤ a) (h2 : a < nxt p q c a) (ha : Asc 0 bs) (hK : stK bs p q c a ≤ 61) :
    (holF 0 bs).filter (fun g => !(inK bs p q c a g).isEmpty) = srtP (usedL bs p q c a) := by
  refine srtP_uniq ((asc_lexP (hol_asc ha)).filter _) fun g => ?_
  rw [List.mem_filter, mem_usedL, Bool.not_eq_true', List.isEmpty_eq_false_iff_exists_mem]
  constructor
  · rintro ⟨hg, k, hk⟩
    obtain ⟨k1, k2⟩ := List.mem_filter.mp hk
    rw [Bool.and_eq_true, decide_eq_true_eq, decide_eq_true_eq] at k2
    have := (hole_in ha g hg).2.2.1
    have hr : rowP bs p q c a k < endF 0 bs := by omega
    exact ⟨k, mem_aheadL.mpr ⟨ahead_lt h h1 h2 ha hr, hr⟩, hg, k2.1, k2.2⟩
  · rintro ⟨k, hk, hg, g1, g2⟩
    refine ⟨hg, k, List.mem_filter.mpr ⟨List.mem_range.mpr ?_, ?_⟩⟩
    · have := (mem_aheadL.mp hk).1
      omega
    · rw [Bool.and_eq_true, decide_eq_true_eq, decide_eq_true_eq]
      exact ⟨g1, g2⟩
theorem rowsL_at {bs : St2} {p q c a : Int} {n k : Nat} {μ : Mu} (hk : k < n + 1) : fIx (.lst (rowsL bs p q c a n)) (.int (k : Nat)) μ = .ok (pairV (rowP bs p q c a k, sz p q c a k)) μ := fIx_lst (by
  have : (rowsL bs p q c a n)[k]? = some (pairV (rowP bs p q c a k, sz p q c a k)) := by
    unfold rowsL
    rw [List.getElem?_map, List.getElem?_range hk]; rfl
  exact atI_k this)
theorem rows_drop {bs : St2} {p q c a : Int} {S n : Nat} (hS : S ≤ n) : cutP (rowsL bs p q c a n) (some (S : Int)) none = (List.range (n + 1 - S)).map fun j => pairV (rowP bs p q c a (S + j), sz p q c a (S + j)) := by
  rw [cut_from]
  apply List.ext_getElem?
  intro i
  rw [List.getElem?_drop]
  unfold rowsL
  rw [List.getElem?_map, List.getElem?_map]
  by_cases hi : S + i < n + 1
  · rw [List.getElem?_range hi, List.getElem?_range (by omega)]; rfl
  · rw [List.getElem?_eq_none (by rw [List.length_range]; omega), List.getElem?_eq_none (by rw [List.length_range]; omega)]; rfl
theorem fNe_natL {ks : List Nat} {μ : Mu} (h : ks.length ≤ 900) : fNe (.lst (ks.map fun k => .int (k : Nat))) (.lst []) μ = .ok (.bl (!ks.isEmpty)) μ := by
  rw [fNe_nil (noBL_map fun _ => rfl) (ints_cmp (f := fun k : Nat => (k : Int)) h)]; simp
def caseTail : DS := dSeq (dPar 12 13 (dCons (dCall 1 (gZ false holesS) (dCons (dVar 1) (dNil))) (dCons (dLstI (dNil)) (dNil)))) (dSeq (dFor (diSeq (dVar 12)) (gT 2 (gsC (gN 14) (gsC (gN 15) (gsN)))) (dSeq (dAsg (dLc (diSeq (dVar 6)) (gcN 18) (asB (dChain fLe fLt (dVar 14) (dOp fIx (dVar 18) (dC (.int 0))) (dOp fAdd (dVar 14) (dVar 15)))) (dVar 18) [18]) (gN 16)) (dAsg (dOp fAdd (dVar 13) (dOp fMulA (dLstI (dCons (dTup (dCons (dVar 14) (dCons (dVar 15) (dNil)))) (dNil))) (dApp fInt (dCons (dOp fNe (dVar 16) (dLstI (dNil))) (dNil))))) (gN 13)))) (dSeq (dAsg (dLstI (dCons (dCall 3 f_last_ahead (dCons (dVar 0) (dCons (dVar 1) (dCons (dVar 2) (dNil))))) (dCons (dCall 3 f_goes_free (dCons (dVar 0) (dCons (dVar 1) (dCons (dVar 2) (dNil))))) (dCons (dCall 3 (gZ false usedS) (dCons (dVar 0) (dCons (dVar 1) (dCons (dVar 2) (dNil))))) (dNil))))) (gN 5)) (dSeq (dIfS (dNotB (dTru (dCall 2 (gZ false sameF) (dCons (dVar 5) (dCons (dLstI (dCons (dIf (asB (dOp fNe (dVar 7) (dLstI (dNil)))) (dOp fIx (dVar 7) (dUn fNeg (dC (.int 1)))) (dC .non)) (dCons (dTup (dCons (dVar 8) (dCons (dOp fIx (dOp fIx (dVar 6) (dVar 8)) (dC (.int 1))) (dNil)))) (dCons (dApp fTuple (dCons (dVar 13) (dNil))) (dNil))))) (dNil)))))) (dRet (dC (.bl false))) (dSkip)) (dSeq (dAsg (dLc (diSeq (dSl (dVar 6) (dPart (dVar 8)) (dNoPart))) (gcN 18) (dYes) (dOp fSub (dOp fIx (dVar 18) (dC (.int 0))) (dVar 11)) [18]) (gN 9)) (dRet (dCall 2 (gZ false sameF) (dCons (dVar 9) (dCons (dApp fList (dCons (dCall 3 f_places (dCons (dVar 0) (dCons (dOp fIx (dOp fIx (dVar 6) (dVar 8)) (dC (.int 1))) (dCons (dOp fSub (dC (.int 60)) (dVar 8)) (dNil))))) (dNil))) (dNil)))))))))
theorem case_tail {bs : St2} {p q c a : Int} {n : Nat} {μ : Mu} {V4 V5 V10 : PV} (h : Rk p q c) (h1 : 1 ≤ a) (h2 : a < nxt p q c a) (ha : Asc 0 bs) (hl : bs.length ≤ 6)
    (hH : ∀ μ, gZ false holesS [.tup (bs.map pairV)] μ = .ok (.tup ((holF 0 bs).map pairV)) μ)
    (hL : ∀ μ, f_last_ahead [rl p q c, .tup (bs.map pairV), .int a] μ = .ok (lastV bs p q c a) μ)
    (hF : ∀ μ, f_goes_free [rl p q c, .tup (bs.map pairV), .int a] μ = .ok (.tup [.int (sinceN bs p q c a : Nat), .int (sz p q c a (sinceN bs p q c a))]) μ)
    (hU : ∀ μ, gZ false usedS [rl p q c, .tup (bs.map pairV), .int a] μ = .ok (.tup ((srtP (usedL bs p q c a)).map pairV)) μ)
    (hUU : (holF 0 bs).filter (fun g => !(inK bs p q c a g).isEmpty) = srtP (usedL bs p q c a)) (hUl : (srtP (usedL bs p q c a)).length ≤ 64)
    (hAl : (aheadK bs p q c a).length ≤ 900)
    (hP : ∀ μ, f_places [rl p q c, .int (sz p q c a (sinceN bs p q c a)), .int (60 - (sinceN bs p q c a : Nat))] μ = .ok (placesV p q c (sz p q c a (sinceN bs p q c a)) (60 - sinceN bs p q c a)) μ)
    (hcut : cutP (rowsL bs p q c a 60) (some ((sinceN bs p q c a : Nat) : Int)) none = (List.range (60 + 1 - sinceN bs p q c a)).map fun j => pairV (rowP bs p q c a (sinceN bs p q c a + j), sz p q c a (sinceN bs p q c a + j)))
    (hfree : ∀ (j : Nat), rowP bs p q c a (sinceN bs p q c a + j) = endF 0 bs + (blk p q c (sz p q c a (sinceN bs p q c a)) j).1) (hsS : sinceN bs p q c a ≤ 59) :
    ∃ μ', (caseTail [some (rl p q c), some (.tup (bs.map pairV)), some (.int a), some (.int n), some V4, some V5, some (.lst (rowsL bs p q c a 60)), some (.lst ((aheadK bs p q c a).map fun k => .int (k : Nat))), some (.int (sinceN bs p q c a : Nat)), none, some V10, some (.int (endF 0 bs)), none, none, none, none, none, none, none] μ).toR = .ok (.bl true) μ' := by
  have hol := hol_len (bs := bs) (h := 0)
  have n2 : ∀ μ, fNe (.lst ((aheadK bs p q c a).map fun k => .int (k : Nat))) (.lst []) μ = .ok (.bl (!(aheadK bs p q c a).isEmpty)) μ := fun μ => fNe_natL hAl
  have hSz : ∀ μ, fIx (.lst (rowsL bs p q c a 60)) (.int (sinceN bs p q c a : Nat)) μ = .ok (pairV (rowP bs p q c a (sinceN bs p q c a), sz p q c a (sinceN bs p q c a))) μ := fun μ => rowsL_at (by omega)
  have hSz1 : ∀ μ, fIx (pairV (rowP bs p q c a (sinceN bs p q c a), sz p q c a (sinceN bs p q c a))) (.int 1) μ = .ok (.int (sz p q c a (sinceN bs p q c a))) μ := fun μ => fIx_tup1
  have hlv : lastV bs p q c a = match (aheadK bs p q c a).getLast? with
    | none => .non
    | some k => .int (k : Nat) := rfl
  unfold caseTail
  simp [hH]
  generalize e : dForN _ _ _ _ _ _ _ = o
  have key : ∃ x14 x15 x16, o = .nx [some (rl p q c), some (.tup (bs.map pairV)), some (.int a), some (.int n), some V4, some V5, some (.lst (rowsL bs p q c a 60)), some (.lst ((aheadK bs p q c a).map fun k => .int (k : Nat))), some (.int (sinceN bs p q c a : Nat)), none, some V10, some (.int (endF 0 bs)), some (.tup ((holF 0 bs).map pairV)), some (.lst ((srtP (usedL bs p q c a)).map pairV)), x14, x15, x16, none, none] μ := by
    rw [← e, ← hUU]
    refine for_items (items := (holF 0 bs).map pairV) (Inv := fun i ρ μ' => μ' = μ ∧ ∃ (acc : St2) (x14 x15 x16 : Option PV), ρ = [some (rl p q c), some (.tup (bs.map pairV)), some (.int a), some (.int n), some V4, some V5, some (.lst (rowsL bs p q c a 60)), some (.lst ((aheadK bs p q c a).map fun k => .int (k : Nat))), some (.int (sinceN bs p q c a : Nat)), none, some V10, some (.int (endF 0 bs)), some (.tup ((holF 0 bs).map pairV)), some (.lst (acc.map pairV)), x14, x15, x16, none, none] ∧ acc.length ≤ i ∧ (holF 0 bs).filter (fun g => !(inK bs p q c a g).isEmpty) = acc ++ ((holF 0 bs).drop i).filter (fun g => !(inK bs p q c a g).isEmpty))
      (Q := fun o => ∃ x14 x15 x16, o = .nx [some (rl p q c), some (.tup (bs.map pairV)), some (.int a), some (.int n), some V4, some V5, some (.lst (rowsL bs p q c a 60)), some (.lst ((aheadK bs p q c a).map fun k => .int (k : Nat))), some (.int (sinceN bs p q c a : Nat)), none, some V10, some (.int (endF 0 bs)), some (.tup ((holF 0 bs).map pairV)), some (.lst (((holF 0 bs).filter (fun g => !(inK bs p q c a g).isEmpty)).map pairV)), x14, x15, x16, none, none] μ) ?_ ?_ ?_ ?_ ?_
    · rintro i ρ μ' _
      rfl
    · rw [List.length_map]; unfold lid; omega
    · exact ⟨rfl, [], none, none, none, rfl, Nat.le_refl _, rfl⟩
    · rintro ρ μ' ⟨rfl, acc, x14, x15, x16, rfl, _, hh⟩
      rw [List.length_map, List.drop_length, List.filter_nil, List.append_nil] at hh
      rw [hh]
      exact ⟨_, _, _, rfl⟩
    · rintro i y ρ μ' hy ⟨rfl, acc, x14, x15, x16, rfl, hal, hh⟩
      rw [List.getElem?_map] at hy
      cases hg : (holF 0 bs)[i]? with
      | none => rw [hg] at hy; cases hy
      | some g =>
        rw [hg] at hy
        cases hy
        obtain ⟨hi, hb⟩ := List.getElem?_eq_some_iff.mp hg
        rw [List.drop_eq_getElem_cons hi, hb] at hh
        refine ⟨[some (rl p q c), some (.tup (bs.map pairV)), some (.int a), some (.int n), some V4, some V5, some (.lst (rowsL bs p q c a 60)), some (.lst ((aheadK bs p q c a).map fun k => .int (k : Nat))), some (.int (sinceN bs p q c a : Nat)), none, some V10, some (.int (endF 0 bs)), some (.tup ((holF 0 bs).map pairV)), some (.lst (acc.map pairV)), some (.int g.1), some (.int g.2), x16, none, none], μ', by simp [pairV], ?_⟩
        have hIl : ((inK bs p q c a g).map fun k => (rowP bs p q c a k, sz p q c a k)).length ≤ 900 := by
          rw [List.length_map]
          unfold inK
          have := List.length_filter_le (fun k => decide (g.1 ≤ rowP bs p q c a k) && decide (rowP bs p q c a k < g.1 + g.2)) (List.range 61)
          rw [List.length_range] at this
          omega
        have hlc : ∀ (ρ : Rho) (μ : Mu), ρ = [some (rl p q c), some (.tup (bs.map pairV)), some (.int a), some (.int n), some V4, some V5, some (.lst (rowsL bs p q c a 60)), some (.lst ((aheadK bs p q c a).map fun k => .int (k : Nat))), some (.int (sinceN bs p q c a : Nat)), none, some V10, some (.int (endF 0 bs)), some (.tup ((holF 0 bs).map pairV)), some (.lst (acc.map pairV)), some (.int g.1), some (.int g.2), x16, none, none] →
            dLcN (jTup (rowsL bs p q c a 60)) (gcN 18) (asB (dChain fLe fLt (dVar 14) (dOp fIx (dVar 18) (dC (.int 0))) (dOp fAdd (dVar 14) (dVar 15)))) (dVar 18) ρ lid 0 μ = .ok (((inK bs p q c a g).map fun k => (rowP bs p q c a k, sz p q c a k)).map pairV) μ := by
          rintro ρ μ rfl
          have := lc_tyF (μ := μ) (ρ := [some (rl p q c), some (.tup (bs.map pairV)), some (.int a), some (.int n), some V4, some V5, some (.lst (rowsL bs p q c a 60)), some (.lst ((aheadK bs p q c a).map fun k => .int (k : Nat))), some (.int (sinceN bs p q c a : Nat)), none, some V10, some (.int (endF 0 bs)), some (.tup ((holF 0 bs).map pairV)), some (.lst (acc.map pairV)), some (.int g.1), some (.int g.2), x16, none, none]) (g := gcN 18) (tt := asB (dChain fLe fLt (dVar 14) (dOp fIx (dVar 18) (dC (.int 0))) (dOp fAdd (dVar 14) (dVar 15)))) (te := dVar 18) (enc := fun k : Nat => pairV (rowP bs p q c a k, sz p q c a k)) (ks := List.range 61) (fun k : Nat => decide (g.1 ≤ rowP bs p q c a k) && decide (rowP bs p q c a k < g.1 + g.2)) (fun k => pairV (rowP bs p q c a k, sz p q c a k)) (by decide) (fun k _ => ⟨_, rfl, by
            by_cases h1 : g.1 ≤ rowP bs p q c a k
            · by_cases h2 : rowP bs p q c a k < g.1 + g.2 <;> simp [pairV, fIx_tup0, h1, h2, chO]
            · simp [pairV, fIx_tup0, h1, chO], fun _ => by simp⟩)
          rw [List.map_map]
          exact this
        have hemp : ((inK bs p q c a g).map fun k => (rowP bs p q c a k, sz p q c a k)).isEmpty = (inK bs p q c a g).isEmpty := by cases inK bs p q c a g <;> rfl
        have hne := fun μ => fNe_prnil (μ := μ) hIl
        rw [hemp] at hne
        by_cases hk : (inK bs p q c a g).isEmpty = true
        · rw [List.filter_cons_of_neg (by simp [hk])] at hh
          have hm : ∀ μ, fMulA (.lst [.tup [.int g.1, .int g.2]]) (.int 0) μ = .ok (.lst []) μ := fun μ => by
            unfold fMulA; rfl
          have had : ∀ μ, fAdd (.lst (acc.map pairV)) (.lst []) μ = .ok (.lst (acc.map pairV)) μ := fun μ => by
            have := fAdd_lst (μ := μ) (xs := acc.map pairV) (ys := []) (by simp; omega)
            rwa [List.append_nil] at this
          refine turn_nx (ρ := [some (rl p q c), some (.tup (bs.map pairV)), some (.int a), some (.int n), some V4, some V5, some (.lst (rowsL bs p q c a 60)), some (.lst ((aheadK bs p q c a).map fun k => .int (k : Nat))), some (.int (sinceN bs p q c a : Nat)), none, some V10, some (.int (endF 0 bs)), some (.tup ((holF 0 bs).map pairV)), some (.lst (acc.map pairV)), some (.int g.1), some (.int g.2), some (.lst (((inK bs p q c a g).map fun k => (rowP bs p q c a k, sz p q c a k)).map pairV)), none, none]) (μ := μ') ?_ ⟨rfl, acc, _, _, _, rfl, by omega, hh⟩
          generalize ((inK bs p q c a g).map fun k => (rowP bs p q c a k, sz p q c a k)) = LK at *
          simp [hlc, hne, hk, wipeP, hm, had]
        · have hk2 : (inK bs p q c a g).isEmpty = false := by simpa using hk
          rw [List.filter_cons_of_pos (by simp [hk2])] at hh
          have hm : ∀ μ, fMulA (.lst [.tup [.int g.1, .int g.2]]) (.int 1) μ = .ok (.lst [.tup [.int g.1, .int g.2]]) μ := fun μ => by
            unfold fMulA; rfl
          have had : ∀ μ, fAdd (.lst (acc.map pairV)) (.lst [.tup [.int g.1, .int g.2]]) μ = .ok (.lst ((acc ++ [g]).map pairV)) μ := fun μ => by
            have := fAdd_lst (μ := μ) (xs := acc.map pairV) (ys := [.tup [.int g.1, .int g.2]]) (by simp; omega)
            rw [this, List.map_append]; rfl
          refine turn_nx (ρ := [some (rl p q c), some (.tup (bs.map pairV)), some (.int a), some (.int n), some V4, some V5, some (.lst (rowsL bs p q c a 60)), some (.lst ((aheadK bs p q c a).map fun k => .int (k : Nat))), some (.int (sinceN bs p q c a : Nat)), none, some V10, some (.int (endF 0 bs)), some (.tup ((holF 0 bs).map pairV)), some (.lst ((acc ++ [g]).map pairV)), some (.int g.1), some (.int g.2), some (.lst (((inK bs p q c a g).map fun k => (rowP bs p q c a k, sz p q c a k)).map pairV)), none, none]) (μ := μ') ?_ ⟨rfl, acc ++ [g], _, _, _, rfl, by simp; omega, by rw [hh]; simp⟩
          generalize ((inK bs p q c a g).map fun k => (rowP bs p q c a k, sz p q c a k)) = LK at *
          generalize (acc ++ [g]).map pairV = AG at *
          simp [hlc, hne, hk2, wipeP, hm, had]
  obtain ⟨x14, x15, x16, rfl⟩ := key
  have hlate : (List.range (60 + 1 - sinceN bs p q c a)).map (fun j => PV.int (rowP bs p q c a (sinceN bs p q c a + j) - endF 0 bs)) = (List.range (60 - sinceN bs p q c a + 1)).map fun j => PV.int (blk p q c (sz p q c a (sinceN bs p q c a)) j).1 := by
    rw [show 60 + 1 - sinceN bs p q c a = 60 - sinceN bs p q c a + 1 by omega]
    exact List.map_congr_left fun j _ => by rw [hfree j]; congr 1; omega
  have hs2 : ∀ μ, gZ false sameF [.lst ((List.range (60 - sinceN bs p q c a + 1)).map fun j => PV.int (blk p q c (sz p q c a (sinceN bs p q c a)) j).1), .lst ((List.range (60 - sinceN bs p q c a + 1)).map fun j => PV.int (blk p q c (sz p q c a (sinceN bs p q c a)) j).1)] μ = .ok (.bl true) μ := fun μ => gsameL (smp_rows (n := 5) (by rw [List.length_range]; omega) fun _ => rfl)
  have hsD : ∀ lv, (lv = PV.non ∨ ∃ k : Int, lv = .int k) → ∀ μ, gZ false sameF [.lst [lv, .tup [.int (sinceN bs p q c a : Nat), .int (sz p q c a (sinceN bs p q c a))], .tup ((srtP (usedL bs p q c a)).map pairV)], .lst [lv, .tup [.int (sinceN bs p q c a : Nat), .int (sz p q c a (sinceN bs p q c a))], .tup ((srtP (usedL bs p q c a)).map pairV)]] μ = .ok (.bl true) μ := fun lv hlv μ => gsameL (by
    have e1 : smp 5 lv = true := by rcases hlv with rfl | ⟨k, rfl⟩ <;> rfl
    have e2 : smp 5 (.tup [.int (sinceN bs p q c a : Nat), .int (sz p q c a (sinceN bs p q c a))]) = true := rfl
    have e3 : smp 5 (.tup ((srtP (usedL bs p q c a)).map pairV)) = true := smp_rowT (by omega) fun _ => rfl
    have e5 : smpL 5 [lv, .tup [.int (sinceN bs p q c a : Nat), .int (sz p q c a (sinceN bs p q c a))], .tup ((srtP (usedL bs p q c a)).map pairV)] = true := smpL_of (by
      simp only [List.mem_cons, List.not_mem_nil, or_false, forall_eq_or_imp, forall_eq]
      exact ⟨e1, e2, e3⟩)
    show (decide (3 < 1000000) && smpL 5 _) = true
    rw [e5]; rfl)
  have hrest : ∀ (ρ : Rho) (μ : Mu), ρ[11]? = some (some (.int (endF 0 bs))) → ρ.length = 19 → dLcN (jTup ((List.range (60 + 1 - sinceN bs p q c a)).map fun j => pairV (rowP bs p q c a (sinceN bs p q c a + j), sz p q c a (sinceN bs p q c a + j)))) (gcN 18) dYes (dOp fSub (dOp fIx (dVar 18) (dC (.int 0))) (dVar 11)) ρ lid 0 μ = .ok ((List.range (60 - sinceN bs p q c a + 1)).map fun j => PV.int (blk p q c (sz p q c a (sinceN bs p q c a)) j).1) μ := fun ρ μ hρ hρ2 => by
    rw [← hlate]
    exact lc_ty (fun j : Nat => .int (rowP bs p q c a (sinceN bs p q c a + j) - endF 0 bs)) (by rw [List.length_range]; omega) (fun j _ => ⟨ρ.set 18 (some (pairV (rowP bs p q c a (sinceN bs p q c a + j), sz p q c a (sinceN bs p q c a + j)))), rfl, by
      have hv18 : dVar 18 (ρ.set 18 (some (pairV (rowP bs p q c a (sinceN bs p q c a + j), sz p q c a (sinceN bs p q c a + j))))) μ = .ok (pairV (rowP bs p q c a (sinceN bs p q c a + j), sz p q c a (sinceN bs p q c a + j))) μ := by
        unfold dVar
        rw [List.getElem?_set_self (by omega)]
      have hv11 : dVar 11 (ρ.set 18 (some (pairV (rowP bs p q c a (sinceN bs p q c a + j), sz p q c a (sinceN bs p q c a + j))))) μ = .ok (.int (endF 0 bs)) μ := by
        unfold dVar
        rw [List.getElem?_set_ne (by decide), hρ]
      have hx0 : ∀ μ, fIx (pairV (rowP bs p q c a (sinceN bs p q c a + j), sz p q c a (sinceN bs p q c a + j))) (.int 0) μ = .ok (.int (rowP bs p q c a (sinceN bs p q c a + j))) μ := fun μ => fIx_tup0
      simp [hv18, hv11, hx0]⟩)
  have hlv2 : lastV bs p q c a = .non ∨ ∃ k : Int, lastV bs p q c a = .int k := by
    rw [hlv]
    split
    · exact .inl rfl
    · exact .inr ⟨_, rfl⟩
  have hsl := hsD _ hlv2
  have hmap : ∀ z : Nat, (60 : Int) - (z : Nat) = 60 - (z : Int) := fun _ => rfl
  generalize hS : sinceN bs p q c a = S at *
  generalize hA : aheadK bs p q c a = A at *
  generalize hW : rowsL bs p q c a 60 = W at *
  generalize hUs : (srtP (usedL bs p q c a)).map pairV = U at *
  rcases List.eq_nil_or_concat A with e | ⟨r, k, e⟩
  · subst e
    simp only [List.getLast?_nil] at hlv
    rw [hlv] at hsl hL
    simp only [List.map_nil] at n2
    simp [hL, hF, hU, n2, hSz, hSz1, hsl, fSl_lst, hcut]
    rw [hrest _ _ rfl rfl]
    simp [wipeP, hP, placesV, hs2, hSz, hSz1]
  · rw [List.concat_eq_append] at e
    subst e
    simp only [List.getLast?_concat] at hlv
    rw [hlv] at hsl hL
    have hat : ∀ μ, fIx (.lst ((r ++ [k]).map fun k => .int (k : Nat))) (.int (-1)) μ = .ok (.int (k : Nat)) μ := fun μ => fIx_lst (by rw [List.map_append]; exact atI_last _ _)
    have hee : (r ++ [k]).isEmpty = false := by simp
    rw [hee] at n2
    generalize hAA : (r ++ [k]).map (fun k => PV.int (k : Nat)) = AA at *
    simp [hL, hF, hU, n2, hat, hSz, hSz1, hsl, fSl_lst, hcut]
    rw [hrest _ _ rfl rfl]
    simp [wipeP, hP, placesV, hs2, hSz, hSz1]
theorem case_core {bs : St2} {p q c a : Int} {n : Nat} (h : OkS p q c a n) (hn : n ≤ 60) (ha : Asc 0 bs) (hl : bs.length ≤ 6) (hm : mostH bs ≤ 59) :
    ∃ μ', f__law_case_right [rl p q c, .tup (bs.map pairV), .int a, .int n] [] = .ok (.bl true) μ' := by
  have h0 : OkS p q c a 0 := ⟨h.r, h.a1, h.st, by decide, by decide⟩
  have h60 : OkS p q c a 60 := ⟨h.r, h.a1, h.st, by decide, by decide⟩
  have hA1 : ∀ μ, gZ true amongS [rl p q c, .tup (bs.map pairV), .int a, .int n] μ = .ok (.lst (rowsL bs p q c a n)) μ := fun μ => gamong (by omega) ha h
  have hA2 : ∀ μ, gZ true amongS [rl p q c, .tup (bs.map pairV), .int a, .int 60] μ = .ok (.lst (rowsL bs p q c a 60)) μ := fun μ => gamong (n := 60) (by omega) ha h60
  have hEn : ∀ μ, f_end_of [.tup (bs.map pairV)] μ = .ok (.int (endF 0 bs)) μ := fun μ => endof_eq
  have hSr : ∀ μ, gZ false srunS [rl p q c, .tup (bs.map pairV), .int a, .int n] μ = .ok (.tup (rowsL bs p q c a n)) μ := fun μ => gsrun (by omega) ha h
  have hAt : ∀ μ, f_ahead_at [rl p q c, .tup (bs.map pairV), .int a, .int n] μ = .ok (.tup ((aheadL bs p q c a (n + 1)).map fun k => .int (k : Nat))) μ := fun μ => aheadat_eq (by omega) ha h
  have hH : ∀ μ, gZ false holesS [.tup (bs.map pairV)] μ = .ok (.tup ((holF 0 bs).map pairV)) μ := fun μ => gholes (by omega)
  have hF : ∀ μ, f_goes_free [rl p q c, .tup (bs.map pairV), .int a] μ = .ok (.tup [.int (sinceN bs p q c a : Nat), .int (sz p q c a (sinceN bs p q c a))]) μ := fun μ => goesfree_eq (.inl rfl) (by omega) ha h0 (by omega)
  have hL : ∀ μ, f_last_ahead [rl p q c, .tup (bs.map pairV), .int a] μ = .ok (lastV bs p q c a) μ := fun μ => lastahead_eq (.inl rfl) (by omega) ha h0 (by omega)
  have hKle : stK bs p q c a ≤ 59 := stK_le h.r h.a1 h.st (by omega)
  have hul := used_len1 (p := p) (q := q) (c := c) (a := a) ha
  have hU : ∀ μ, gZ false usedS [rl p q c, .tup (bs.map pairV), .int a] μ = .ok (.tup ((srtP (usedL bs p q c a)).map pairV)) μ := fun μ => gused (by omega) ha h0 (by omega) (by omega)
  have hUU := used_61 h.r h.a1 h.st ha (show stK bs p q c a ≤ 61 by omega)
  have hsrl := srtP_len (usedL bs p q c a)
  have hA61 : aheadL bs p q c a 61 = aheadK bs p q c a := aheadL_all h.r h.a1 h.st ha (by omega)
  have hsS : sinceN bs p q c a ≤ 59 := Nat.le_trans since_le hKle
  obtain ⟨s1, s2⟩ := since_ok h.r h.a1 h.st ha
  have hfree := row_free h.r h.a1 h.st ha s1 s2
  have hol := hol_len (bs := bs) (h := 0)
  have hAl : (aheadK bs p q c a).length ≤ 900 := by
    have := aheadX_len bs p q c a (stK bs p q c a)
    unfold aheadX at this
    rw [List.length_map] at this
    show (aheadL bs p q c a (stK bs p q c a)).length ≤ 900
    omega
  obtain ⟨z1, z2⟩ := sz_ok h.r h.a1 h.st (sinceN bs p q c a)
  have ha1 := h.a1
  have hP : ∀ μ, f_places [rl p q c, .int (sz p q c a (sinceN bs p q c a)), .int (60 - (sinceN bs p q c a : Nat))] μ = .ok (placesV p q c (sz p q c a (sinceN bs p q c a)) (60 - sinceN bs p q c a)) μ := fun μ => by
    have := places_eq (μ := μ) (n := 60 - sinceN bs p q c a) (⟨h.r, by omega, z2, by omega, by omega⟩ : OkS p q c (sz p q c a (sinceN bs p q c a)) ((60 - sinceN bs p q c a : Nat) : Int))
    rwa [show ((60 - sinceN bs p q c a : Nat) : Int) = 60 - (sinceN bs p q c a : Nat) by omega] at this
  have hr1 : ∀ μ, rng1 [.int ((n : Int) + 1)] μ = .ok (jRng 0 (n + 1)) μ := fun μ => by
    have := rng1_ok (j := ((n + 1 : Nat) : Int)) (μ := μ) (by omega) (by omega)
    rwa [Int.toNat_natCast, show ((n + 1 : Nat) : Int) = (n : Int) + 1 by omega] at this
  have hr61 : ∀ μ, rng1 [.int 61] μ = .ok (jRng 0 61) μ := fun μ => rng1_ok (j := 61) (by decide) (by decide)
  have hcut := rows_drop (bs := bs) (p := p) (q := q) (c := c) (a := a) (S := sinceN bs p q c a) (n := 60) (by omega)
  have hsame1 : ∀ μ, gZ false sameF [.lst [.lst (rowsL bs p q c a n), .lst ((aheadL bs p q c a (n + 1)).map fun k => PV.int (k : Nat))], .lst [.lst (rowsL bs p q c a n), .lst ((aheadL bs p q c a (n + 1)).map fun k => PV.int (k : Nat))]] μ = .ok (.bl true) μ := fun μ => gsameL (by
    have e1 : smp 5 (.lst (rowsL bs p q c a n)) = true := smp_rows (by rw [List.length_range]; omega) fun _ => rfl
    have e2 : smp 5 (.lst ((aheadL bs p q c a (n + 1)).map fun k => PV.int (k : Nat))) = true := smp_rows (by
      have := aheadX_len bs p q c a (n + 1)
      unfold aheadX at this
      rw [List.length_map] at this
      omega) fun _ => rfl
    show (decide (2 < 1000000) && (smp 5 _ && (smp 5 _ && true))) = true
    rw [e1, e2]; rfl)
  have hfr : ∀ N : Nat, (List.range N).filter (fun k => decide (rowP bs p q c a k < endF 0 bs)) = aheadL bs p q c a N := fun N => rfl
  unfold f__law_case_right d__law_case_right
  rw [runF_]
  simp [hA1, hEn, hr1]
  rw [lc_rngF (fun k : Nat => decide (rowP bs p q c a k < endF 0 bs)) (fun k : Nat => .int (k : Int)) (by omega) (fun k hk => ⟨_, rfl, by
    have := rowsL_at (bs := bs) (p := p) (q := q) (c := c) (a := a) (n := n) (k := k) (μ := []) hk
    simp [wipeP, this]
    simp [pairV, fIx_tup0], fun _ => by simp [wipeP]⟩)]
  rw [hfr]
  simp [wipeP, hSr, hAt, hsame1, hA2, hr61]
  rw [lc_rngF (fun k : Nat => decide (rowP bs p q c a k < endF 0 bs)) (fun k : Nat => .int (k : Int)) (by omega) (fun k hk => ⟨_, rfl, by
    have := rowsL_at (bs := bs) (p := p) (q := q) (c := c) (a := a) (n := 60) (k := k) (μ := []) hk
    simp [wipeP, this]
    simp [pairV, fIx_tup0], fun _ => by simp [wipeP]⟩)]
  rw [hfr, hA61]
  simp only [R.bind_ok, R.thn_ok]
  have hTail := case_tail (bs := bs) (n := n) (μ := []) (V4 := .lst ((aheadL bs p q c a (n + 1)).map fun k => PV.int (k : Nat))) (V5 := .lst [.lst (rowsL bs p q c a n), .lst ((aheadL bs p q c a (n + 1)).map fun k => PV.int (k : Nat))]) (V10 := .lst (rowsL bs p q c a n)) h.r h.a1 h.st ha hl hH hL hF hU hUU (by omega) hAl hP hcut hfree hsS
  generalize hT : dSeq (dPar 12 13 _) _ = T
  rw [show caseTail = T from hT] at hTail
  have n2 : ∀ μ, fNe (.lst ((aheadK bs p q c a).map fun k => .int (k : Nat))) (.lst []) μ = .ok (.bl (!(aheadK bs p q c a).isEmpty)) μ := fun μ => fNe_natL hAl
  have hsin : sinceN bs p q c a = match (aheadK bs p q c a).getLast? with
    | none => 0
    | some k => k + 1 := rfl
  generalize hS : sinceN bs p q c a = S at *
  generalize hA : aheadK bs p q c a = A at *
  rcases List.eq_nil_or_concat A with e | ⟨r, k, e⟩
  · subst e
    simp only [List.getLast?_nil] at hsin
    subst hsin
    simp only [List.map_nil] at n2 hTail
    simp [wipeP, n2]
    exact hTail
  · rw [List.concat_eq_append] at e
    subst e
    simp only [List.getLast?_concat] at hsin
    have hat : ∀ μ, fIx (.lst ((r ++ [k]).map fun k => .int (k : Nat))) (.int (-1)) μ = .ok (.int (k : Nat)) μ := fun μ => fIx_lst (by rw [List.map_append]; exact atI_last _ _)
    have hee : (r ++ [k]).isEmpty = false := by simp
    rw [hee] at n2
    have hs5 : S = k + 1 := hsin
    subst hs5
    rw [show ((k + 1 : Nat) : Int) = (k : Int) + 1 by omega] at hTail
    generalize hAA : (r ++ [k]).map (fun k => PV.int (k : Nat)) = AA at *
    simp [wipeP, n2, hat]
    exact hTail

end GB
set_option Elab.async false
set_option exponentiation.threshold 20000
set_option linter.all false
set_option maxRecDepth 100000
set_option maxHeartbeats 4000000
namespace GB
open PySem PySem.Spec PyProof.Rows L2
end GB
set_option Elab.async false
set_option exponentiation.threshold 20000
set_option linter.all false
set_option maxRecDepth 100000
set_option maxHeartbeats 2000000
namespace GB
open PySem L2
theorem asc_snoc {x : Int × Int} (h2 : 1 ≤ x.2) : ∀ {xs : St2} {h : Int}, Asc h xs → endF h xs ≤ x.1 → Asc h (xs ++ [x])
  | [], h, _, he => ⟨he, h2, trivial⟩
  | y :: r, h, ⟨a1, a2, a3⟩, he => ⟨a1, a2, asc_snoc h2 a3 he⟩
theorem endF_snoc {x : Int × Int} : ∀ {xs : St2} {h : Int}, endF h (xs ++ [x]) = x.1 + x.2
  | [], _ => rfl
  | y :: r, h => endF_snoc (xs := r) (h := y.1 + y.2)
theorem holF_snoc {x : Int × Int} : ∀ {xs : St2} {h : Int}, holF h (xs ++ [x]) = holF h xs ++ (if endF h xs < x.1 then [(endF h xs, x.1 - endF h xs)] else [])
  | [], h => by
    show (if h < x.1 then [(h, x.1 - h)] else []) ++ [] = [] ++ _
    rw [List.append_nil, List.nil_append]
    rfl
  | y :: r, h => by
    show (if h < y.1 then [(h, y.1 - h)] else []) ++ holF (y.1 + y.2) (r ++ [x]) = ((if h < y.1 then [(h, y.1 - h)] else []) ++ holF (y.1 + y.2) r) ++ _
    rw [holF_snoc, List.append_assoc]
    rfl

end GB
set_option Elab.async false
set_option exponentiation.threshold 20000
set_option linter.all false
set_option maxRecDepth 100000
set_option maxHeartbeats 4000000
namespace GB
open PySem PySem.Spec PyProof.Rows L2
end GB
set_option Elab.async false
set_option exponentiation.threshold 20000
set_option linter.all false
set_option maxRecDepth 100000
set_option maxHeartbeats 2000000
namespace GB
open PySem L2
theorem case_up (as : List PV) (v : PV) (_ : as.length = 4) (hv : case12 as = some v) : Ends false f__law_case_right as v := by
  unfold case12 at hv
  split at hv
  · rename_i p q c xs a n _
    cases hx : allPr xs with
    | none => rw [hx] at hv; cases hv
    | some bs =>
      rw [hx] at hv
      simp only [Option.bind_some] at hv
      split at hv
      · rename_i hl
        cases hv
        rw [Bool.and_eq_true, Bool.and_eq_true, Bool.and_eq_true, decide_eq_true_eq, decide_eq_true_eq] at hl
        obtain ⟨⟨⟨h1, h2⟩, h3⟩, h4⟩ := hl
        obtain ⟨a1, a2, a3⟩ := stO3_of h3
        have ex := allPr_inv hx
        subst ex
        have hk := okS_of h1
        have hn := hk.n0
        have e := case_core (bs := bs) (n := n.toNat) (by rw [Int.toNat_of_nonneg hn]; exact hk) (by omega) a1 a2 h4
        rw [Int.toNat_of_nonneg hn] at e
        exact ⟨rfl, e⟩
      · cases hv
  · cases hv
theorem gcase {bs : St2} {p q c a n : Int} {μ : Mu} (hk : OkS p q c a n) (hn : n ≤ 60) (h1 : stO3 bs = true) (hm : mostH bs ≤ 59) : gZ false case12 [rl p q c, .tup (bs.map pairV), .int a, .int n] μ = .ok (.bl true) μ := gZ_ok (by
    show (noref (rl p q c) && (noref (.tup (bs.map pairV)) && true)) = true
    rw [nrf_tup]; rfl) (by
  show (allPr (bs.map pairV)).bind _ = _
  rw [allPr_map]
  simp only [Option.bind_some, okS_mk hk.r hk.a1 hk.st hk.n0 hk.n1, decide_eq_true hn, h1, decide_eq_true hm, Bool.and_self, if_true])
theorem by_hand : okT (f__law_hand_right [] []) = true := by decide +kernel
theorem lots_u {μ : Mu} {l n : Nat} (hu : Urn l n μ) (hn : n < 100000000) :
    ∃ bs μ', f__law_lots [.ref l] μ = .ok (.tup (bs.map pairV)) μ' ∧ Asc 0 bs ∧ bs.length ≤ 6 ∧ (∀ x ∈ holF 0 bs, x.2 ≤ 11) ∧ endF 0 bs ≤ 300 ∧ Urn l (n + 2 + 2 * bs.length) μ' ∧ Fr l μ μ' := by
  have hll : l < μ.length := by
    obtain ⟨u, h1, _⟩ := hu
    exact getL_lt (getL_of_M h1)
  have hu1 : Urn l n (μ ++ [.lst []]) := by
    obtain ⟨u, h1, h2⟩ := hu
    exact ⟨u, getM_app h1, h2⟩
  obtain ⟨w, μa, ea, aa, ba, oa, fa⟩ := take_u (t := 4) hu1 (by omega) (by omega) (by omega)
  obtain ⟨v, μ1, e1, a1, b1, o1, f1⟩ := take_u (t := 7) oa (by omega) (by omega) (by omega)
  have fr1 : Fr l μ μ1 := (Fr.app.trans fa).trans f1
  have g1 : getL μ1 μ.length = some [] := f1 _ _ (by omega) (fa _ _ (by omega) getL_last)
  have hv : ∃ N : Nat, v = N := ⟨v.toNat, by omega⟩
  obtain ⟨N, rfl⟩ := hv
  unfold f__law_lots d__law_lots
  rw [runF_]
  simp [ea, e1]
  rw [rng1_ok (by omega) (by omega)]
  simp
  generalize e : dForN (jRng 0 N) _ _ _ _ _ _ = o
  have key : ∃ (bs : St2) (x1 x3 x4 : Option PV) (μ' : Mu), o = .nx [some (.ref l), x1, some (.ref μ.length), x3, x4] μ' ∧ getL μ' μ.length = some (bs.map pairV) ∧ bs.length = N ∧ Asc 0 bs ∧ (∀ x ∈ holF 0 bs, x.2 ≤ 11) ∧ endF 0 bs ≤ 3 + 16 * N ∧ Urn l (n + 2 + 2 * N) μ' ∧ Fr l μ μ' := by
    rw [← e]
    refine for_rng (n := N) (Inv := fun i ρ μ' => ∃ (bs : St2) (z : Int) (x1 x4 : Option PV), ρ = [some (.ref l), x1, some (.ref μ.length), some (.int z), x4] ∧ endF 0 bs ≤ z ∧ z ≤ endF 0 bs + 11 ∧ z ≤ 3 + 16 * i ∧ getM μ' μ.length = some (bs.map pairV) ∧ bs.length = i ∧ Asc 0 bs ∧ (∀ x ∈ holF 0 bs, x.2 ≤ 11) ∧ Urn l (n + 2 + 2 * i) μ' ∧ Fr l μ μ')
      (Q := fun o => ∃ (bs : St2) (x1 x3 x4 : Option PV) (μ' : Mu), o = .nx [some (.ref l), x1, some (.ref μ.length), x3, x4] μ' ∧ getL μ' μ.length = some (bs.map pairV) ∧ bs.length = N ∧ Asc 0 bs ∧ (∀ x ∈ holF 0 bs, x.2 ≤ 11) ∧ endF 0 bs ≤ 3 + 16 * N ∧ Urn l (n + 2 + 2 * N) μ' ∧ Fr l μ μ') (by unfold lid; omega) ⟨[], w, _, _, rfl, aa, by show w ≤ 0 + 11; omega, by omega, g1, rfl, trivial, fun x hx => absurd hx List.not_mem_nil, o1, fr1⟩ ?_ ?_
    · rintro ρ μ' ⟨bs, z, x1, x4, rfl, q1, q2, q3, q4, q5, q6, q7, q8, q9⟩
      exact ⟨bs, _, _, _, μ', rfl, getL_of_M q4, q5, q6, q7, by omega, q8, q9⟩
    · rintro i ρ μ' hi ⟨bs, z, x1, x4, rfl, q1, q2, q3, q4, q5, q6, q7, q8, q9⟩
      obtain ⟨v2, μ2, e2, a2, b2, o2, f2⟩ := take_u (t := 5) q8 (by omega) (by omega) (by omega)
      have hgl : getL μ2 μ.length = some (bs.map pairV) := f2 _ _ (by omega) (getL_of_M q4)
      have hgm : getM μ2 μ.length = some (bs.map pairV) := hgl
      have hlen : (bs.map pairV).length < 16777216 := by rw [List.length_map]; omega
      have hfa := fAppend_ok (y := .tup [.int z, .int (1 + v2)]) hgm hlen
      have hmp : (bs ++ [(z, 1 + v2)]).map pairV = bs.map pairV ++ [.tup [.int z, .int (1 + v2)]] := by rw [List.map_append]; rfl
      rw [← hmp] at hfa
      have o2b : Urn l (n + 2 + 2 * i + 1) (μ2.set μ.length (.lst ((bs ++ [(z, 1 + v2)]).map pairV))) := by
        obtain ⟨u, h1, h2⟩ := o2
        exact ⟨u, by rw [getM_set_ne (by omega)]; exact h1, h2⟩
      obtain ⟨v3, μ3, e3, a3, b3, o3, f3⟩ := take_u (t := 12) o2b (by omega) (by omega) (by omega)
      have hx2 : endF 0 (bs ++ [(z, 1 + v2)]) = z + (1 + v2) := endF_snoc
      refine ⟨_, _, rfl, ?_⟩
      refine turn_nx (ρ := [some (.ref l), some (.int (0 + (i : Nat))), some (.ref μ.length), some (.int (z + (1 + v2) + v3)), some (.int (1 + v2))]) (μ := μ3) ?_ ⟨bs ++ [(z, 1 + v2)], z + (1 + v2) + v3, _, _, rfl, by rw [hx2]; omega, by rw [hx2]; omega, by omega, f3 _ _ (by omega) (getL_of_M (getM_set hgm)), by simp [q5], asc_snoc (by show 1 ≤ 1 + v2; omega) q6 q1, ?_, ?_, ?_⟩
      · simp only [List.map_append, List.map_cons, List.map_nil] at e3
        simp [e2, methL_ok hgl, hfa, e3]
      · intro x hx
        rw [holF_snoc] at hx
        rcases List.mem_append.mp hx with z | z
        · exact q7 x z
        · split at z
          · rw [List.mem_singleton] at z
            subst z
            simp only
            omega
          · exact absurd z List.not_mem_nil
      · rw [show n + 2 + 2 * (i + 1) = n + 2 + 2 * i + 1 + 1 by omega]
        exact o3
      · intro k xs hk hx
        have hkl := getL_lt hx
        refine f3 _ _ hk ?_
        rw [getL_set_ne (by omega)]
        exact f2 _ _ hk (q9 _ _ hk hx)
  obtain ⟨bs, x1, x3, x4, μ', rfl, q1, q2, q3, q4, q5, q6, q7⟩ := key
  refine ⟨bs, μ', ?_, q3, by omega, fun a b hab => q4 (a, b) hab, by omega, by rw [q2]; exact q6, q7⟩
  simp [fTuple_r, q1]
theorem right_ok {μ : Mu} {l : Nat} (hu : Urn l 0 μ) : ∃ μ', f__law_right [.ref l] μ = .ok (.bl true) μ' ∧ Fr l μ μ' := by
  unfold f__law_right d__law_right
  rw [runF_]
  have R6 : ∀ μ, rng1 [.int 6] μ = .ok (jRng 0 6) μ := fun μ => rng1_ok (j := 6) (by decide) (by decide)
  simp [R6]
  generalize e : dForN _ _ _ _ _ _ _ = o
  have key : ∃ ρ' μ', o = .nx ρ' μ' ∧ Fr l μ μ' := by
    rw [← e]
    refine for_rng (n := 6) (Inv := fun i ρ μ' => ∃ (x1 x2 x3 x4 x5 x6 : Option PV), ρ = [some (.ref l), x1, x2, x3, x4, x5, x6] ∧ Urn l (50 * i) μ' ∧ Fr l μ μ') (Q := fun o => ∃ ρ' μ', o = .nx ρ' μ' ∧ Fr l μ μ') (by unfold lid; omega) ⟨_, _, _, _, _, _, rfl, hu, Fr.refl⟩ ?_ ?_
    · rintro ρ μ' ⟨x1, x2, x3, x4, x5, x6, rfl, _, h⟩
      exact ⟨_, _, rfl, h⟩
    · rintro i ρ μ' hi ⟨x1, x2, x3, x4, x5, x6, rfl, h1, h2⟩
      obtain ⟨p, q, c, μ7, e7, hr, hp, hc, o7, f7⟩ := kin_u (t := 12) (m := 4) h1 (by omega) (by omega) (by omega) (by omega) (by omega)
      obtain ⟨bs, μ3, e3, ba, bl, bg, be, o3, f3⟩ := lots_u o7 (by omega)
      obtain ⟨cs, μ4, e4, ca, cl, cg, ce, o4, f4⟩ := lots_u o3 (by omega)
      obtain ⟨a1, μ1, e1, u1, v1, z1, o1, f1⟩ := first_u (z := 9) o4 (by omega) hr (by omega) (by omega)
      obtain ⟨v2, μ2, e2, a2, b2, o2, f2⟩ := take_u (t := 15) o1 (by omega) (by omega) (by omega)
      have hm : mostH bs ≤ 59 := by
        unfold mostH
        rcases (maxI_spec ((holF 0 bs).map (·.2)) 0).1 with z | z
        · rw [z]; decide
        · obtain ⟨g, g1, g2⟩ := List.mem_map.mp z
          rw [← g2]
          have := bg g g1
          omega
      have s1 := stO3_mk ba bl be
      have s2 := stO3_mk ca cl ce
      have k1 := glots (μ := μ2) s1 s2
      have k2 := gcase (μ := μ2) (⟨hr, u1, v1, by omega, by omega⟩ : OkS p q c a1 v2) (by omega) s1 hm
      refine ⟨_, _, rfl, ?_⟩
      simp [e7, e3, e4, e1, e2, k1, k2]
      exact ⟨o2.mono (by omega), ((((h2.trans f7).trans f3).trans f4).trans f1).trans f2⟩
  obtain ⟨ρ', μ', rfl, h⟩ := key
  exact ⟨μ', by simp, h⟩

end GB
set_option Elab.async false
set_option exponentiation.threshold 20000
set_option linter.all false
set_option maxRecDepth 100000
set_option maxHeartbeats 4000000
namespace GB
open PySem PySem.Spec PyProof.Rows L2
end GB
set_option Elab.async false
set_option exponentiation.threshold 20000
set_option linter.all false
set_option maxRecDepth 100000
set_option maxHeartbeats 2000000
namespace GB
open PySem L2
theorem law_true (ns : List Int) (h : ns.length ≤ 63) (hb : ∀ z ∈ ns, Builtin.Int.intBits z ≤ 1048576) : ∃ μ, f_law [scriptP ns] [] = .ok (.bl true) μ := by
  obtain ⟨lc, xs, μ1, e1, g1, x1, x2⟩ := cells_ok (μ := []) h
  unfold f_law d_law
  rw [runF_]
  simp [e1, fLen_r, g1, rng1_ok (show (-4611686018427387904 : Int) ≤ (xs.length : Int) by omega) (show (xs.length : Int) < 4611686018427387904 by omega)]
  obtain ⟨μ2, e2⟩ := law_allR (i := 2) (te := dCall 1 f__law_right (dCons (dCall 2 f__law_box (dCons (dVar 1) (dCons (dVar 2) dNil))) dNil)) (ρ := wipeP [some (scriptP ns), some (.ref lc), none] [2]) (by omega) g1 fun k μ hk hg => by
    obtain ⟨μ2, e2, u2, ne, g2⟩ := box_u hg hk (by omega)
    obtain ⟨μ3, e3, f3⟩ := right_ok u2
    refine ⟨μ3, ?_, f3 _ _ ne g2⟩
    simp [wipeP, e2, e3]
  rw [e2]
  simp [fAll_true]

end GB
set_option Elab.async false
set_option exponentiation.threshold 20000
set_option linter.all false
set_option maxRecDepth 100000
set_option maxHeartbeats 4000000
namespace GB
open PySem PySem.Spec PyProof.Rows L2
end GB
set_option Elab.async false
set_option linter.all false
set_option maxRecDepth 100000
set_option maxHeartbeats 4000000
namespace GB
open PySem PySem.Spec PyProof.Rows L2

variable {P : Program} {w : World} {K : PySem.W.Frag} {mg : Str → Option Value} {base : Heap}
theorem sc_is_number : FnScope ["thing"] ["thing"] (defScope st_is_number) := ⟨rfl, rfl, rfl, by decide +kernel, rfl, by decide +kernel, by decide +kernel⟩
theorem ok_is_number {f : Addr} {fd : FuncData} (F : FnP K "is_number" st_is_number f fd) (hm : mg "is_number" = some (.ref f)) (B : Blt mg) : Cal P w K mg base "is_number" 1 1 f_is_number :=
  have nd := sc_is_number.nd
  cal_of (ps := ["thing"]) F sc_is_number rfl hm (fun _ _ _ _ _ _ us hl => match us, hl with | [_], _ => rfl) fun cdv A outer s H E hr =>
    ss_one (s_ret (e_and (e_isi (by rfl) B.isinstance (e_var 0) (c_cons (by rfl) B.int (by decide +kernel) (c_nil))) (e_one (e_not (e_isi (by rfl) B.isinstance (e_var 0) (c_cons (by rfl) B.bool (by decide +kernel) (c_nil)))))))
theorem sc_tupled : FnScope ["thing", "part"] ["thing"] (defScope st_tupled) := ⟨rfl, rfl, rfl, by decide +kernel, rfl, by decide +kernel, by decide +kernel⟩
theorem okr_tupled {f : Addr} {fd : FuncData} (F : FnP K "tupled" st_tupled f fd) (hm : mg "tupled" = some (.ref f)) (B : Blt mg) : ∀ n : Nat, Cal P w K mg base "tupled" (n + 0) 1 (f_tupled n)
  | 0 => cal_bad F sc_tupled rfl hm (fun _ _ _ _ _ _ us hl => match us, hl with | [_], _ => rfl)
  | n + 1 => have c_tupled := okr_tupled F hm B n
    have nd := sc_tupled.nd
    cal_of (ps := ["thing"]) F sc_tupled rfl hm (fun _ _ _ _ _ _ us hl => match us, hl with | [_], _ => rfl) fun cdv A outer s H E hr =>
    ss_one (s_ret (e_if (t_val (e_isiL (by rfl) B.isinstance (e_var 0) (c_cons (by rfl) B.list (by decide +kernel) (c_cons (by rfl) B.tuple (by decide +kernel) (c_nil))) (by decide))) (e_tuple B.tuple (a_cons (e_lc (own := [("part", 1)]) rfl nd (i_seq (e_var 0)) (by exact blkOk_by (N := ["thing", "part"]) (sc := defScope st_tupled) (by decide +kernel)) (fun _ _ _ _ _ => pg_name (i := 1) nd rfl (by first | exact Or.inl rfl | exact Or.inr rfl)) (fun _ _ _ _ _ => ts_nil) (fun _ _ _ _ _ => e_callC c_tupled (hr.mono (by omega)) (a_cons (e_var 1) (a_nil))) (ct_name (by decide))) (a_nil))) (e_var 0)))
theorem ok_tupled {f : Addr} {fd : FuncData} (F : FnP K "tupled" st_tupled f fd) (hm : mg "tupled" = some (.ref f)) (B : Blt mg) : Cal P w K mg base "tupled" 8 1 (f_tupled 8) := (okr_tupled F hm B 8).up (by decide)
theorem sc_set_of : FnScope ["things"] ["things"] (defScope st_set_of) := ⟨rfl, rfl, rfl, by decide +kernel, rfl, by decide +kernel, by decide +kernel⟩
theorem ok_set_of {f : Addr} {fd : FuncData} (F : FnP K "set_of" st_set_of f fd) (hm : mg "set_of" = some (.ref f)) (B : Blt mg) : Cal P w K mg base "set_of" 1 1 f_set_of :=
  have nd := sc_set_of.nd
  cal_of (ps := ["things"]) F sc_set_of rfl hm (fun _ _ _ _ _ _ us hl => match us, hl with | [_], _ => rfl) fun cdv A outer s H E hr =>
    ss_one (s_ret (e_tuple B.tuple (a_cons (e_sortSet B.sorted B.set hr.units (e_var 0)) (a_nil))))
theorem sc_next_size : FnScope ["rule", "size", "top", "bottom", "more"] ["rule", "size"] (defScope st_next_size) := ⟨rfl, rfl, rfl, by decide +kernel, rfl, by decide +kernel, by decide +kernel⟩
theorem ok_next_size {f : Addr} {fd : FuncData} (F : FnP K "next_size" st_next_size f fd) (hm : mg "next_size" = some (.ref f)) (B : Blt mg) : Cal P w K mg base "next_size" 1 2 f_next_size :=
  have nd := sc_next_size.nd
  cal_of (ps := ["rule", "size"]) F sc_next_size rfl hm (fun _ _ _ _ _ _ us hl => match us, hl with | [_, _], _ => rfl) fun cdv A outer s H E hr =>
    ss_cons (s_asg (e_var 0) (g_tup rfl (gs_cons (g_name nd) (gs_cons (g_name nd) (gs_cons (g_name nd) (gs_nil)))))) (ss_one (s_ret (e_add (e_div (e_mulI (e_var 2) (e_var 1)) (e_var 3)) (e_var 4))))
theorem sc_is_start : FnScope ["rule", "thing"] ["rule", "thing"] (defScope st_is_start) := ⟨rfl, rfl, rfl, by decide +kernel, rfl, by decide +kernel, by decide +kernel⟩
theorem ok_is_start {f : Addr} {fd : FuncData} (F : FnP K "is_start" st_is_start f fd) (hm : mg "is_start" = some (.ref f)) (B : Blt mg) (c_is_number : Cal P w K mg base "is_number" 1 1 f_is_number) (c_next_size : Cal P w K mg base "next_size" 1 2 f_next_size) : Cal P w K mg base "is_start" 2 2 f_is_start :=
  have nd := sc_is_start.nd
  cal_of (ps := ["rule", "thing"]) F sc_is_start rfl hm (fun _ _ _ _ _ _ us hl => match us, hl with | [_, _], _ => rfl) fun cdv A outer s H E hr =>
    ss_one (s_ret (e_and (e_callC c_is_number (hr.mono (by decide)) (a_cons (e_var 1) (a_nil))) (e_and (e_ge (e_var 1) (e_int)) (e_one (e_gt (e_callC c_next_size (hr.mono (by decide)) (a_cons (e_var 0) (a_cons (e_var 1) (a_nil)))) (e_var 1))))))
theorem sc_check_start : FnScope ["rule", "start"] ["rule", "start"] (defScope st_check_start) := ⟨rfl, rfl, rfl, by decide +kernel, rfl, by decide +kernel, by decide +kernel⟩
theorem ok_check_start {f : Addr} {fd : FuncData} (F : FnP K "check_start" st_check_start f fd) (hm : mg "check_start" = some (.ref f)) (B : Blt mg) (c_is_start : Cal P w K mg base "is_start" 2 2 f_is_start) : Cal P w K mg base "check_start" 3 2 f_check_start :=
  have nd := sc_check_start.nd
  cal_of (ps := ["rule", "start"]) F sc_check_start rfl hm (fun _ _ _ _ _ _ us hl => match us, hl with | [_, _], _ => rfl) fun cdv A outer s H E hr =>
    ss_one (s_if (t_not (t_truth (e_callC c_is_start (hr.mono (by decide)) (a_cons (e_var 0) (a_cons (e_var 1) (a_nil)))))) (ss_one (s_never)) (ss_nil))
theorem sc_sizes : FnScope ["rule", "start", "many", "found", "number"] ["rule", "start", "many"] (defScope st_sizes) := ⟨rfl, rfl, rfl, by decide +kernel, rfl, by decide +kernel, by decide +kernel⟩
theorem ok_sizes {f : Addr} {fd : FuncData} (F : FnP K "sizes" st_sizes f fd) (hm : mg "sizes" = some (.ref f)) (B : Blt mg) (c_check_start : Cal P w K mg base "check_start" 3 2 f_check_start) (c_next_size : Cal P w K mg base "next_size" 1 2 f_next_size) : Cal P w K mg base "sizes" 4 3 f_sizes :=
  have nd := sc_sizes.nd
  cal_of (ps := ["rule", "start", "many"]) F sc_sizes rfl hm (fun _ _ _ _ _ _ us hl => match us, hl with | [_, _, _], _ => rfl) fun cdv A outer s H E hr =>
    ss_cons (s_expr (e_callC c_check_start (hr.mono (by decide)) (a_cons (e_var 0) (a_cons (e_var 1) (a_nil))))) (ss_cons (s_set nd (e_lst (a_cons (e_var 1) (a_nil)))) (ss_cons (s_for PassesOwn.never rfl (i_rng1 B.range (a_cons (e_var 2) (a_nil))) (g_name nd) (ss_one (s_expr (e_append (e_var 3) (a_cons (e_callC c_next_size (hr.mono (by decide)) (a_cons (e_var 0) (a_cons (e_ix (e_var 3) (e_neg (e_int))) (a_nil)))) (a_nil)))))) (ss_one (s_ret (e_tuple B.tuple (a_cons (e_var 3) (a_nil)))))))
theorem sc_is_stays : FnScope ["thing", "here", "part", "own"] ["thing"] (defScope st_is_stays) := ⟨rfl, rfl, rfl, by decide +kernel, rfl, by decide +kernel, by decide +kernel⟩
theorem ok_is_stays {f : Addr} {fd : FuncData} (F : FnP K "is_stays" st_is_stays f fd) (hm : mg "is_stays" = some (.ref f)) (B : Blt mg) (c_is_number : Cal P w K mg base "is_number" 1 1 f_is_number) : Cal P w K mg base "is_stays" 2 1 f_is_stays :=
  have nd := sc_is_stays.nd
  cal_of (ps := ["thing"]) F sc_is_stays rfl hm (fun _ _ _ _ _ _ us hl => match us, hl with | [_], _ => rfl) fun cdv A outer s H E hr =>
    ss_cons (s_if (t_not (t_val (e_isi (by rfl) B.isinstance (e_var 0) (c_cons (by rfl) B.tuple (by decide +kernel) (c_nil))))) (ss_one (s_ret (e_bl))) (ss_nil)) (ss_cons (s_set nd (e_int)) (ss_cons (s_for PassesOwn.never rfl (i_seq (e_var 0)) (g_name nd) (ss_cons (s_if (PW.pt (w_or (t_not (t_val (e_isi (by rfl) B.isinstance (e_var 2) (c_cons (by rfl) B.tuple (by decide +kernel) (c_nil))))) (w_or (t_ne hr.units (e_len B.len (a_cons (e_var 2) (a_nil))) (e_int)) (w_or1 (t_not (t_val (e_all B.all (a_cons (e_lc (own := [("own", 3)]) rfl nd (i_seq (e_var 2)) (by exact blkOk_by (N := ["thing", "here", "part", "own"]) (sc := defScope st_is_stays) (by decide +kernel)) (fun _ _ _ _ _ => pg_name (i := 3) nd rfl (by first | exact Or.inl rfl | exact Or.inr rfl)) (fun _ _ _ _ _ => ts_nil) (fun _ _ _ _ _ => e_callC c_is_number (hr.mono (by decide)) (a_cons (e_var 3) (a_nil))) (ct_name (by decide))) (a_nil))))))))) (ss_one (s_ret (e_bl))) (ss_nil)) (ss_cons (s_if (PW.pt (w_or (t_lt (e_ix (e_var 2) (e_int)) (e_var 1)) (w_or1 (t_lt (e_ix (e_var 2) (e_int)) (e_int))))) (ss_one (s_ret (e_bl))) (ss_nil)) (ss_one (s_set nd (e_add (e_ix (e_var 2) (e_int)) (e_ix (e_var 2) (e_int)))))))) (ss_one (s_ret (e_bl)))))
theorem sc_end_of : FnScope ["stays"] ["stays"] (defScope st_end_of) := ⟨rfl, rfl, rfl, by decide +kernel, rfl, by decide +kernel, by decide +kernel⟩
theorem ok_end_of {f : Addr} {fd : FuncData} (F : FnP K "end_of" st_end_of f fd) (hm : mg "end_of" = some (.ref f)) (B : Blt mg) : Cal P w K mg base "end_of" 1 1 f_end_of :=
  have nd := sc_end_of.nd
  cal_of (ps := ["stays"]) F sc_end_of rfl hm (fun _ _ _ _ _ _ us hl => match us, hl with | [_], _ => rfl) fun cdv A outer s H E hr =>
    ss_one (s_ret (e_if (t_gt (e_len B.len (a_cons (e_var 0) (a_nil))) (e_int)) (e_sum B.sum (a_cons (e_ix (e_var 0) (e_neg (e_int))) (a_nil))) (e_int)))
theorem sc_holes : FnScope ["stays", "found", "here", "place", "cells"] ["stays"] (defScope st_holes) := ⟨rfl, rfl, rfl, by decide +kernel, rfl, by decide +kernel, by decide +kernel⟩
theorem ok_holes {f : Addr} {fd : FuncData} (F : FnP K "holes" st_holes f fd) (hm : mg "holes" = some (.ref f)) (B : Blt mg) : Cal P w K mg base "holes" 1 1 f_holes :=
  have nd := sc_holes.nd
  cal_of (ps := ["stays"]) F sc_holes rfl hm (fun _ _ _ _ _ _ us hl => match us, hl with | [_], _ => rfl) fun cdv A outer s H E hr =>
    ss_cons (s_par rfl nd (a_cons (e_lst (a_nil)) (a_cons (e_int) (a_nil)))) (ss_cons (s_for PassesOwn.never rfl (i_seq (e_var 0)) (g_tup rfl (gs_cons (g_name nd) (gs_cons (g_name nd) (gs_nil)))) (ss_cons (s_if (t_gt (e_var 3) (e_var 2)) (ss_one (s_expr (e_append (e_var 1) (a_cons (e_tup (a_cons (e_var 2) (a_cons (e_sub (e_var 3) (e_var 2)) (a_nil)))) (a_nil))))) (ss_nil)) (ss_one (s_set nd (e_add (e_var 3) (e_var 4)))))) (ss_one (s_ret (e_tuple B.tuple (a_cons (e_var 1) (a_nil))))))
theorem sc_how_many_places : FnScope ["stays", "size", "place", "cells"] ["stays", "size"] (defScope st_how_many_places) := ⟨rfl, rfl, rfl, by decide +kernel, rfl, by decide +kernel, by decide +kernel⟩
theorem ok_how_many_places {f : Addr} {fd : FuncData} (F : FnP K "how_many_places" st_how_many_places f fd) (hm : mg "how_many_places" = some (.ref f)) (B : Blt mg) (c_holes : Cal P w K mg base "holes" 1 1 (gZ false holesS)) : Cal P w K mg base "how_many_places" 2 2 f_how_many_places :=
  have nd := sc_how_many_places.nd
  cal_of (ps := ["stays", "size"]) F sc_how_many_places rfl hm (fun _ _ _ _ _ _ us hl => match us, hl with | [_, _], _ => rfl) fun cdv A outer s H E hr =>
    ss_one (s_ret (e_sum B.sum (a_cons (e_lc (own := [("place", 2), ("cells", 3)]) rfl nd (i_seq (e_callC c_holes (hr.mono (by decide)) (a_cons (e_var 0) (a_nil)))) (by exact blkOk_by (N := ["stays", "size", "place", "cells"]) (sc := defScope st_how_many_places) (by decide +kernel)) (fun _ _ _ _ _ => pg_tup rfl (pgs_cons (pg_name (i := 2) nd rfl (by first | exact Or.inl rfl | exact Or.inr rfl)) (pgs_cons (pg_name (i := 3) nd rfl (by first | exact Or.inl rfl | exact Or.inr rfl)) (pgs_nil)))) (fun _ _ _ _ _ => ts_nil) (fun _ _ _ _ _ => e_max B.max (a_cons (e_int) (a_cons (e_add (e_sub (e_var 3) (e_var 1)) (e_int)) (a_nil)))) (ct_two (by decide) (by decide))) (a_nil))))
theorem sc_plain_stays : FnScope ["stays", "found", "place", "cells", "first"] ["stays"] (defScope st_plain_stays) := ⟨rfl, rfl, rfl, by decide +kernel, rfl, by decide +kernel, by decide +kernel⟩
theorem ok_plain_stays {f : Addr} {fd : FuncData} (F : FnP K "plain_stays" st_plain_stays f fd) (hm : mg "plain_stays" = some (.ref f)) (B : Blt mg) (c_tupled : Cal P w K mg base "tupled" 8 1 (f_tupled 8)) : Cal P w K mg base "plain_stays" 9 1 f_plain_stays :=
  have nd := sc_plain_stays.nd
  cal_of (ps := ["stays"]) F sc_plain_stays rfl hm (fun _ _ _ _ _ _ us hl => match us, hl with | [_], _ => rfl) fun cdv A outer s H E hr =>
    ss_cons (s_set nd (e_lst (a_nil))) (ss_cons (s_for PassesOwn.never rfl (i_seq (e_callC c_tupled (hr.mono (by decide)) (a_cons (e_var 0) (a_nil)))) (g_tup rfl (gs_cons (g_name nd) (gs_cons (g_name nd) (gs_nil)))) (ss_one (s_if (PW.pt (w_and (t_gt (e_len B.len (a_cons (e_var 1) (a_nil))) (e_int)) (w_and1 (t_ge (e_sum B.sum (a_cons (e_ix (e_var 1) (e_neg (e_int))) (a_nil))) (e_var 2))))) (ss_cons (s_set nd (e_ix (e_ix (e_var 1) (e_neg (e_int))) (e_int))) (ss_one (s_asg (e_tup (a_cons (e_var 4) (a_cons (e_sub (e_max B.max (a_cons (e_sum B.sum (a_cons (e_ix (e_var 1) (e_neg (e_int))) (a_nil))) (a_cons (e_add (e_var 2) (e_var 3)) (a_nil)))) (e_var 4)) (a_nil)))) (g_sub (e_var 1) (e_neg (e_int)))))) (ss_one (s_expr (e_append (e_var 1) (a_cons (e_tup (a_cons (e_var 2) (a_cons (e_var 3) (a_nil)))) (a_nil)))))))) (ss_one (s_ret (e_tuple B.tuple (a_cons (e_var 1) (a_nil))))))
theorem sc_both_stays : FnScope ["one", "other"] ["one", "other"] (defScope st_both_stays) := ⟨rfl, rfl, rfl, by decide +kernel, rfl, by decide +kernel, by decide +kernel⟩
theorem ok_both_stays {f : Addr} {fd : FuncData} (F : FnP K "both_stays" st_both_stays f fd) (hm : mg "both_stays" = some (.ref f)) (B : Blt mg) (c_plain_stays : Cal P w K mg base "plain_stays" 9 1 (gZ false plainS)) (c_tupled : Cal P w K mg base "tupled" 8 1 (f_tupled 8)) : Cal P w K mg base "both_stays" 10 2 f_both_stays :=
  have nd := sc_both_stays.nd
  cal_of (ps := ["one", "other"]) F sc_both_stays rfl hm (fun _ _ _ _ _ _ us hl => match us, hl with | [_, _], _ => rfl) fun cdv A outer s H E hr =>
    ss_one (s_ret (e_callC c_plain_stays (hr.mono (by decide)) (a_cons (e_sortedY B.sorted (a_cons (e_lstI (a_star (e_callC c_tupled (hr.mono (by decide)) (a_cons (e_var 0) (a_nil))) (a_star (e_callC c_tupled (hr.mono (by decide)) (a_cons (e_var 1) (a_nil))) (a_nil)))) (a_nil))) (a_nil))))
theorem sc_lowest_place : FnScope ["stays", "size", "here", "place", "cells"] ["stays", "size"] (defScope st_lowest_place) := ⟨rfl, rfl, rfl, by decide +kernel, rfl, by decide +kernel, by decide +kernel⟩
theorem ok_lowest_place {f : Addr} {fd : FuncData} (F : FnP K "lowest_place" st_lowest_place f fd) (hm : mg "lowest_place" = some (.ref f)) (B : Blt mg) : Cal P w K mg base "lowest_place" 1 2 f_lowest_place :=
  have nd := sc_lowest_place.nd
  cal_of (ps := ["stays", "size"]) F sc_lowest_place rfl hm (fun _ _ _ _ _ _ us hl => match us, hl with | [_, _], _ => rfl) fun cdv A outer s H E hr =>
    ss_cons (s_set nd (e_int)) (ss_cons (s_for PassesOwn.never rfl (i_seq (e_var 0)) (g_tup rfl (gs_cons (g_name nd) (gs_cons (g_name nd) (gs_nil)))) (ss_cons (s_if (t_ge (e_sub (e_var 3) (e_var 2)) (e_var 1)) (ss_one (s_ret (e_var 2))) (ss_nil)) (ss_one (s_set nd (e_add (e_var 3) (e_var 4)))))) (ss_one (s_ret (e_var 2))))
theorem sc_lowest_beside : FnScope ["stays", "block", "size"] ["stays", "block", "size"] (defScope st_lowest_beside) := ⟨rfl, rfl, rfl, by decide +kernel, rfl, by decide +kernel, by decide +kernel⟩
theorem ok_lowest_beside {f : Addr} {fd : FuncData} (F : FnP K "lowest_beside" st_lowest_beside f fd) (hm : mg "lowest_beside" = some (.ref f)) (B : Blt mg) (c_lowest_place : Cal P w K mg base "lowest_place" 1 2 f_lowest_place) (c_tupled : Cal P w K mg base "tupled" 8 1 (f_tupled 8)) : Cal P w K mg base "lowest_beside" 9 3 f_lowest_beside :=
  have nd := sc_lowest_beside.nd
  cal_of (ps := ["stays", "block", "size"]) F sc_lowest_beside rfl hm (fun _ _ _ _ _ _ us hl => match us, hl with | [_, _, _], _ => rfl) fun cdv A outer s H E hr =>
    ss_one (s_ret (e_callC c_lowest_place (hr.mono (by decide)) (a_cons (e_sortedY B.sorted (a_cons (e_lstI (a_star (e_callC c_tupled (hr.mono (by decide)) (a_cons (e_var 0) (a_nil))) (a_cons (e_callC c_tupled (hr.mono (by decide)) (a_cons (e_var 1) (a_nil))) (a_nil)))) (a_nil))) (a_cons (e_var 2) (a_nil)))))
theorem sc_stays_run : FnScope ["rule", "stays", "start", "many", "found", "size", "taken"] ["rule", "stays", "start", "many"] (defScope st_stays_run) := ⟨rfl, rfl, rfl, by decide +kernel, rfl, by decide +kernel, by decide +kernel⟩
theorem ok_stays_run {f : Addr} {fd : FuncData} (F : FnP K "stays_run" st_stays_run f fd) (hm : mg "stays_run" = some (.ref f)) (B : Blt mg) (c_sizes : Cal P w K mg base "sizes" 4 3 (gZ false (by3 sizesV))) (c_tupled : Cal P w K mg base "tupled" 8 1 (f_tupled 8)) (c_lowest_place : Cal P w K mg base "lowest_place" 1 2 f_lowest_place) : Cal P w K mg base "stays_run" 9 4 f_stays_run :=
  have nd := sc_stays_run.nd
  cal_of (ps := ["rule", "stays", "start", "many"]) F sc_stays_run rfl hm (fun _ _ _ _ _ _ us hl => match us, hl with | [_, _, _, _], _ => rfl) fun cdv A outer s H E hr =>
    ss_cons (s_set nd (e_lst (a_nil))) (ss_cons (s_for PassesOwn.never rfl (i_seq (e_callC c_sizes (hr.mono (by decide)) (a_cons (e_var 0) (a_cons (e_var 2) (a_cons (e_var 3) (a_nil)))))) (g_name nd) (ss_cons (s_set nd (e_lstI (a_star (e_callC c_tupled (hr.mono (by decide)) (a_cons (e_var 1) (a_nil))) (a_star (e_sl (e_var 4) (o_some (e_neg (e_int))) (o_none)) (a_nil))))) (ss_one (s_expr (e_append (e_var 4) (a_cons (e_tup (a_cons (e_callC c_lowest_place (hr.mono (by decide)) (a_cons (e_sortedY B.sorted (a_cons (e_var 6) (a_nil))) (a_cons (e_var 5) (a_nil)))) (a_cons (e_var 5) (a_nil)))) (a_nil))))))) (ss_one (s_ret (e_tuple B.tuple (a_cons (e_var 4) (a_nil))))))
theorem sc_ahead_at : FnScope ["rule", "stays", "start", "many", "end", "rows", "number", "row"] ["rule", "stays", "start", "many"] (defScope st_ahead_at) := ⟨rfl, rfl, rfl, by decide +kernel, rfl, by decide +kernel, by decide +kernel⟩
theorem ok_ahead_at {f : Addr} {fd : FuncData} (F : FnP K "ahead_at" st_ahead_at f fd) (hm : mg "ahead_at" = some (.ref f)) (B : Blt mg) (c_end_of : Cal P w K mg base "end_of" 1 1 f_end_of) (c_stays_run : Cal P w K mg base "stays_run" 9 4 (gZ false srunS)) : Cal P w K mg base "ahead_at" 10 4 f_ahead_at :=
  have nd := sc_ahead_at.nd
  cal_of (ps := ["rule", "stays", "start", "many"]) F sc_ahead_at rfl hm (fun _ _ _ _ _ _ us hl => match us, hl with | [_, _, _, _], _ => rfl) fun cdv A outer s H E hr =>
    ss_cons (s_asg (e_tup (a_cons (e_callC c_end_of (hr.mono (by decide)) (a_cons (e_var 1) (a_nil))) (a_cons (e_callC c_stays_run (hr.mono (by decide)) (a_cons (e_var 0) (a_cons (e_var 1) (a_cons (e_var 2) (a_cons (e_var 3) (a_nil)))))) (a_nil)))) (g_tup rfl (gs_cons (g_name nd) (gs_cons (g_name nd) (gs_nil))))) (ss_one (s_ret (e_tuple B.tuple (a_cons (e_lc (own := [("number", 6), ("row", 7)]) rfl nd (i_en B.enumerate (a_cons (e_var 5) (a_nil))) (by exact blkOk_by (N := ["rule", "stays", "start", "many", "end", "rows", "number", "row"]) (sc := defScope st_ahead_at) (by decide +kernel)) (fun _ _ _ _ _ => pg_tup rfl (pgs_cons (pg_name (i := 6) nd rfl (by first | exact Or.inl rfl | exact Or.inr rfl)) (pgs_cons (pg_name (i := 7) nd rfl (by first | exact Or.inl rfl | exact Or.inr rfl)) (pgs_nil)))) (fun _ _ _ _ _ => ts_one (t_lt (e_ix (e_var 7) (e_int)) (e_var 4))) (fun _ _ _ _ _ => e_var 6) (ct_two (by decide) (by decide))) (a_nil)))))
theorem sc_rows_ahead : FnScope ["rule", "stays", "start", "own", "end", "most", "found", "here", "number", "size", "place", "cells"] ["rule", "stays", "start"] (defScope st_rows_ahead) := ⟨rfl, rfl, rfl, by decide +kernel, rfl, by decide +kernel, by decide +kernel⟩
theorem ok_rows_ahead {f : Addr} {fd : FuncData} (F : FnP K "rows_ahead" st_rows_ahead f fd) (hm : mg "rows_ahead" = some (.ref f)) (B : Blt mg) (c_check_start : Cal P w K mg base "check_start" 3 2 f_check_start) (c_tupled : Cal P w K mg base "tupled" 8 1 (f_tupled 8)) (c_end_of : Cal P w K mg base "end_of" 1 1 f_end_of) (c_next_size : Cal P w K mg base "next_size" 1 2 f_next_size) (c_lowest_place : Cal P w K mg base "lowest_place" 1 2 f_lowest_place) (c_lowest_beside : Cal P w K mg base "lowest_beside" 9 3 f_lowest_beside) (c_holes : Cal P w K mg base "holes" 1 1 (gZ false holesS)) : Cal P w K mg base "rows_ahead" 10 3 f_rows_ahead :=
  have nd := sc_rows_ahead.nd
  cal_of (ps := ["rule", "stays", "start"]) F sc_rows_ahead rfl hm (fun _ _ _ _ _ _ us hl => match us, hl with | [_, _, _], _ => rfl) fun cdv A outer s H E hr =>
    ss_cons (s_expr (e_callC c_check_start (hr.mono (by decide)) (a_cons (e_var 0) (a_cons (e_var 2) (a_nil))))) (ss_cons (s_par3 rfl nd (a_cons (e_callC c_tupled (hr.mono (by decide)) (a_cons (e_var 1) (a_nil))) (a_cons (e_callC c_end_of (hr.mono (by decide)) (a_cons (e_var 1) (a_nil))) (a_cons (e_max B.max (a_cons (e_lstI (a_cons (e_int) (a_star (e_lc (own := [("place", 10), ("cells", 11)]) rfl nd (i_seq (e_callC c_holes (hr.mono (by decide)) (a_cons (e_var 1) (a_nil)))) (by exact blkOk_by (N := ["rule", "stays", "start", "own", "end", "most", "found", "here", "number", "size", "place", "cells"]) (sc := defScope st_rows_ahead) (by decide +kernel)) (fun _ _ _ _ _ => pg_tup rfl (pgs_cons (pg_name (i := 10) nd rfl (by first | exact Or.inl rfl | exact Or.inr rfl)) (pgs_cons (pg_name (i := 11) nd rfl (by first | exact Or.inl rfl | exact Or.inr rfl)) (pgs_nil)))) (fun _ _ _ _ _ => ts_nil) (fun _ _ _ _ _ => e_var 11) (ct_two (by decide) (by decide))) (a_nil)))) (a_nil))) (a_nil))))) (ss_cons (s_par3 rfl nd (a_cons (e_lst (a_nil)) (a_cons (e_tup (a_cons (e_callC c_lowest_place (hr.mono (by decide)) (a_cons (e_var 3) (a_cons (e_var 2) (a_nil)))) (a_cons (e_var 2) (a_nil)))) (a_cons (e_int) (a_nil))))) (ss_cons (s_while PassesOwn.never (t_le (e_ix (e_var 7) (e_int)) (e_var 5)) (ss_cons (s_if (t_lt (e_ix (e_var 7) (e_int)) (e_var 4)) (ss_one (s_expr (e_append (e_var 6) (a_cons (e_tup (a_cons (e_var 8) (a_star (e_var 7) (a_nil)))) (a_nil))))) (ss_nil)) (ss_cons (s_set nd (e_callC c_next_size (hr.mono (by decide)) (a_cons (e_var 0) (a_cons (e_ix (e_var 7) (e_int)) (a_nil))))) (ss_one (s_par rfl nd (a_cons (e_tup (a_cons (e_callC c_lowest_beside (hr.mono (by decide)) (a_cons (e_var 3) (a_cons (e_var 7) (a_cons (e_var 9) (a_nil))))) (a_cons (e_var 9) (a_nil)))) (a_cons (e_add (e_var 8) (e_int)) (a_nil)))))))) (ss_one (s_ret (e_var 6))))))
theorem sc_last_ahead : FnScope ["rule", "stays", "start", "found"] ["rule", "stays", "start"] (defScope st_last_ahead) := ⟨rfl, rfl, rfl, by decide +kernel, rfl, by decide +kernel, by decide +kernel⟩
theorem ok_last_ahead {f : Addr} {fd : FuncData} (F : FnP K "last_ahead" st_last_ahead f fd) (hm : mg "last_ahead" = some (.ref f)) (B : Blt mg) (c_rows_ahead : Cal P w K mg base "rows_ahead" 10 3 (gZ true raheadS)) : Cal P w K mg base "last_ahead" 11 3 f_last_ahead :=
  have nd := sc_last_ahead.nd
  cal_of (ps := ["rule", "stays", "start"]) F sc_last_ahead rfl hm (fun _ _ _ _ _ _ us hl => match us, hl with | [_, _, _], _ => rfl) fun cdv A outer s H E hr =>
    ss_cons (s_set nd (e_callC c_rows_ahead (hr.mono (by decide)) (a_cons (e_var 0) (a_cons (e_var 1) (a_cons (e_var 2) (a_nil)))))) (ss_one (s_ret (e_if (t_gt (e_len B.len (a_cons (e_var 3) (a_nil))) (e_int)) (e_ix (e_ix (e_var 3) (e_neg (e_int))) (e_int)) (e_non))))
theorem sc_goes_free : FnScope ["rule", "stays", "start", "found", "number", "place", "size"] ["rule", "stays", "start"] (defScope st_goes_free) := ⟨rfl, rfl, rfl, by decide +kernel, rfl, by decide +kernel, by decide +kernel⟩
theorem ok_goes_free {f : Addr} {fd : FuncData} (F : FnP K "goes_free" st_goes_free f fd) (hm : mg "goes_free" = some (.ref f)) (B : Blt mg) (c_rows_ahead : Cal P w K mg base "rows_ahead" 10 3 (gZ true raheadS)) (c_next_size : Cal P w K mg base "next_size" 1 2 f_next_size) : Cal P w K mg base "goes_free" 11 3 f_goes_free :=
  have nd := sc_goes_free.nd
  cal_of (ps := ["rule", "stays", "start"]) F sc_goes_free rfl hm (fun _ _ _ _ _ _ us hl => match us, hl with | [_, _, _], _ => rfl) fun cdv A outer s H E hr =>
    ss_cons (s_set nd (e_callC c_rows_ahead (hr.mono (by decide)) (a_cons (e_var 0) (a_cons (e_var 1) (a_cons (e_var 2) (a_nil)))))) (ss_cons (s_if (t_eq hr.units (e_len B.len (a_cons (e_var 3) (a_nil))) (e_int)) (ss_one (s_ret (e_tup (a_cons (e_int) (a_cons (e_var 2) (a_nil)))))) (ss_nil)) (ss_cons (s_asg (e_ix (e_var 3) (e_neg (e_int))) (g_tup rfl (gs_cons (g_name nd) (gs_cons (g_name nd) (gs_cons (g_name nd) (gs_nil)))))) (ss_one (s_ret (e_tup (a_cons (e_add (e_var 4) (e_int)) (a_cons (e_callC c_next_size (hr.mono (by decide)) (a_cons (e_var 0) (a_cons (e_var 6) (a_nil)))) (a_nil))))))))
theorem sc_holes_used : FnScope ["rule", "stays", "start", "found", "number", "place", "size", "hole"] ["rule", "stays", "start"] (defScope st_holes_used) := ⟨rfl, rfl, rfl, by decide +kernel, rfl, by decide +kernel, by decide +kernel⟩
theorem ok_holes_used {f : Addr} {fd : FuncData} (F : FnP K "holes_used" st_holes_used f fd) (hm : mg "holes_used" = some (.ref f)) (B : Blt mg) (c_rows_ahead : Cal P w K mg base "rows_ahead" 10 3 (gZ true raheadS)) (c_set_of : Cal P w K mg base "set_of" 1 1 f_set_of) (c_holes : Cal P w K mg base "holes" 1 1 (gZ false holesS)) : Cal P w K mg base "holes_used" 11 3 f_holes_used :=
  have nd := sc_holes_used.nd
  cal_of (ps := ["rule", "stays", "start"]) F sc_holes_used rfl hm (fun _ _ _ _ _ _ us hl => match us, hl with | [_, _, _], _ => rfl) fun cdv A outer s H E hr =>
    ss_cons (s_set nd (e_lst (a_nil))) (ss_cons (s_for PassesOwn.never rfl (i_seq (e_callC c_rows_ahead (hr.mono (by decide)) (a_cons (e_var 0) (a_cons (e_var 1) (a_cons (e_var 2) (a_nil)))))) (g_tup rfl (gs_cons (g_name nd) (gs_cons (g_name nd) (gs_cons (g_name nd) (gs_nil))))) (ss_one (s_expr (e_extend (e_var 3) (a_cons (e_lc (own := [("hole", 7)]) rfl nd (i_seq (e_callC c_holes (hr.mono (by decide)) (a_cons (e_var 1) (a_nil)))) (by exact blkOk_by (N := ["rule", "stays", "start", "found", "number", "place", "size", "hole"]) (sc := defScope st_holes_used) (by decide +kernel)) (fun _ _ _ _ _ => pg_name (i := 7) nd rfl (by first | exact Or.inl rfl | exact Or.inr rfl)) (fun _ _ _ _ _ => ts_one (t_lelt (e_ix (e_var 7) (e_int)) (e_var 5) (e_sum B.sum (a_cons (e_var 7) (a_nil))))) (fun _ _ _ _ _ => e_var 7) (ct_name (by decide))) (a_nil)))))) (ss_one (s_ret (e_callC c_set_of (hr.mono (by decide)) (a_cons (e_var 3) (a_nil))))))
theorem sc_blocks_of : FnScope ["rule", "start", "many", "found", "number", "later", "place", "size"] ["rule", "start", "many"] (defScope st_blocks_of) := ⟨rfl, rfl, rfl, by decide +kernel, rfl, by decide +kernel, by decide +kernel⟩
theorem ok_blocks_of {f : Addr} {fd : FuncData} (F : FnP K "blocks_of" st_blocks_of f fd) (hm : mg "blocks_of" = some (.ref f)) (B : Blt mg) (c_check_start : Cal P w K mg base "check_start" 3 2 f_check_start) (c_next_size : Cal P w K mg base "next_size" 1 2 f_next_size) : Cal P w K mg base "blocks_of" 4 3 f_blocks_of :=
  have nd := sc_blocks_of.nd
  cal_of (ps := ["rule", "start", "many"]) F sc_blocks_of rfl hm (fun _ _ _ _ _ _ us hl => match us, hl with | [_, _, _], _ => rfl) fun cdv A outer s H E hr =>
    ss_cons (s_expr (e_callC c_check_start (hr.mono (by decide)) (a_cons (e_var 0) (a_cons (e_var 1) (a_nil))))) (ss_cons (s_set nd (e_lst (a_cons (e_tup (a_cons (e_int) (a_cons (e_var 1) (a_nil)))) (a_nil)))) (ss_cons (s_for PassesOwn.never rfl (i_rng1 B.range (a_cons (e_var 2) (a_nil))) (g_name nd) (ss_cons (s_asg (e_ix (e_var 3) (e_neg (e_int))) (g_tup rfl (gs_cons (g_name nd) (gs_cons (g_name nd) (gs_nil))))) (ss_cons (s_set nd (e_callC c_next_size (hr.mono (by decide)) (a_cons (e_var 0) (a_cons (e_var 7) (a_nil))))) (ss_one (s_expr (e_append (e_var 3) (a_cons (e_tup (a_cons (e_if (t_le (e_var 5) (e_var 6)) (e_int) (e_add (e_var 6) (e_var 7))) (a_cons (e_var 5) (a_nil)))) (a_nil)))))))) (ss_one (s_ret (e_tuple B.tuple (a_cons (e_var 3) (a_nil)))))))
theorem sc_places : FnScope ["rule", "start", "many", "place", "size"] ["rule", "start", "many"] (defScope st_places) := ⟨rfl, rfl, rfl, by decide +kernel, rfl, by decide +kernel, by decide +kernel⟩
theorem ok_places {f : Addr} {fd : FuncData} (F : FnP K "places" st_places f fd) (hm : mg "places" = some (.ref f)) (B : Blt mg) (c_blocks_of : Cal P w K mg base "blocks_of" 4 3 (gZ false (by3 blocksV))) : Cal P w K mg base "places" 5 3 f_places :=
  have nd := sc_places.nd
  cal_of (ps := ["rule", "start", "many"]) F sc_places rfl hm (fun _ _ _ _ _ _ us hl => match us, hl with | [_, _, _], _ => rfl) fun cdv A outer s H E hr =>
    ss_one (s_ret (e_tuple B.tuple (a_cons (e_lc (own := [("place", 3), ("size", 4)]) rfl nd (i_seq (e_callC c_blocks_of (hr.mono (by decide)) (a_cons (e_var 0) (a_cons (e_var 1) (a_cons (e_var 2) (a_nil)))))) (by exact blkOk_by (N := ["rule", "start", "many", "place", "size"]) (sc := defScope st_places) (by decide +kernel)) (fun _ _ _ _ _ => pg_tup rfl (pgs_cons (pg_name (i := 3) nd rfl (by first | exact Or.inl rfl | exact Or.inr rfl)) (pgs_cons (pg_name (i := 4) nd rfl (by first | exact Or.inl rfl | exact Or.inr rfl)) (pgs_nil)))) (fun _ _ _ _ _ => ts_nil) (fun _ _ _ _ _ => e_var 3) (ct_two (by decide) (by decide))) (a_nil))))
theorem sc__law_box : FnScope ["_law_script", "_law_k", "_law_great_so"] ["_law_script", "_law_k"] (defScope st__law_box) := ⟨rfl, rfl, rfl, by decide +kernel, rfl, by decide +kernel, by decide +kernel⟩
theorem ok__law_box {f : Addr} {fd : FuncData} (F : FnP K "_law_box" st__law_box f fd) (hm : mg "_law_box" = some (.ref f)) (B : Blt mg) : Cal P w K mg base "_law_box" 1 2 f__law_box :=
  have nd := sc__law_box.nd
  cal_of (ps := ["_law_script", "_law_k"]) F sc__law_box rfl hm (fun _ _ _ _ _ _ us hl => match us, hl with | [_, _], _ => rfl) fun cdv A outer s H E hr =>
    ss_cons (s_set nd (e_if (t_lt (e_var 1) (e_len B.len (a_cons (e_var 0) (a_nil)))) (e_ix (e_var 0) (e_var 1)) (e_int))) (ss_one (s_ret (e_lst (a_cons (e_mulI (e_abs B.abs (a_cons (e_var 2) (a_nil))) (e_intc B.int (a_cons (e_ge (e_abs B.abs (a_cons (e_var 2) (a_nil))) (e_pow (e_int) (e_int))) (a_nil)))) (a_cons (e_add (e_add (e_mod (e_intc B.int (a_cons (e_var 2) (a_nil))) (e_int)) (e_mulI (e_int) (e_var 1))) (e_int)) (a_cons (e_int) (a_nil)))))))
theorem sc__law_take : FnScope ["_law_tin", "_law_top_so", "_law_once", "_law_far", "_law_twice", "_law_digit_so"] ["_law_tin", "_law_top_so"] (defScope st__law_take) := ⟨rfl, rfl, rfl, by decide +kernel, rfl, by decide +kernel, by decide +kernel⟩
theorem ok__law_take {f : Addr} {fd : FuncData} (F : FnP K "_law_take" st__law_take f fd) (hm : mg "_law_take" = some (.ref f)) (B : Blt mg) : Cal P w K mg base "_law_take" 1 2 f__law_take :=
  have nd := sc__law_take.nd
  cal_of (ps := ["_law_tin", "_law_top_so"]) F sc__law_take rfl hm (fun _ _ _ _ _ _ us hl => match us, hl with | [_, _], _ => rfl) fun cdv A outer s H E hr =>
    ss_cons (s_if (t_gt (e_ix (e_var 0) (e_int)) (e_int)) (ss_cons (s_set nd (e_mod (e_intc B.int (a_cons (e_ix (e_var 0) (e_int)) (a_nil))) (e_var 1))) (ss_cons (s_asg (e_div (e_ix (e_var 0) (e_int)) (e_var 1)) (g_sub (e_var 0) (e_int))) (ss_one (s_ret (e_var 5))))) (ss_nil)) (ss_cons (s_asg (e_add (e_ix (e_var 0) (e_int)) (e_int)) (g_sub (e_var 0) (e_int))) (ss_cons (s_set nd (e_mod (e_intc B.int (a_cons (e_mulI (e_add (e_ix (e_var 0) (e_int)) (e_mulI (e_int) (e_ix (e_var 0) (e_int)))) (e_add (e_int) (e_ix (e_var 0) (e_int)))) (a_nil))) (e_int))) (ss_cons (s_set nd (e_add (e_mod (e_intc B.int (a_cons (e_var 2) (a_nil))) (e_int)) (e_int))) (ss_cons (s_set nd (e_mod (e_intc B.int (a_cons (e_mulI (e_add (e_add (e_var 2) (e_ix (e_var 0) (e_int))) (e_div (e_ix (e_var 0) (e_int)) (e_int))) (e_var 3)) (a_nil))) (e_int))) (ss_one (s_ret (e_mod (e_intc B.int (a_cons (e_div (e_mod (e_intc B.int (a_cons (e_add (e_mulI (e_var 4) (e_int)) (e_var 2)) (a_nil))) (e_int)) (e_int)) (a_nil))) (e_var 1))))))))
theorem sc__law_cells : FnScope ["_law_script", "_law_most", "_law_cells_here", "_law_k", "_law_great_so", "_law_at_so"] ["_law_script", "_law_most"] (defScope st__law_cells) := ⟨rfl, rfl, rfl, by decide +kernel, rfl, by decide +kernel, by decide +kernel⟩
theorem ok__law_cells {f : Addr} {fd : FuncData} (F : FnP K "_law_cells" st__law_cells f fd) (hm : mg "_law_cells" = some (.ref f)) (B : Blt mg) : Cal P w K mg base "_law_cells" 1 2 f__law_cells :=
  have nd := sc__law_cells.nd
  cal_of (ps := ["_law_script", "_law_most"]) F sc__law_cells rfl hm (fun _ _ _ _ _ _ us hl => match us, hl with | [_, _], _ => rfl) fun cdv A outer s H E hr =>
    ss_cons (s_set nd (e_or (e_listT B.list (a_cons (e_sl (e_var 0) (o_none) (o_some (e_var 1))) (a_nil))) (e_one (e_lst (a_cons (e_int) (a_nil)))))) (ss_cons (s_for PassesOwn.never rfl (i_en B.enumerate (a_cons (e_sl (e_var 0) (o_some (e_var 1)) (o_some (e_int))) (a_nil))) (g_tup rfl (gs_cons (g_name nd) (gs_cons (g_name nd) (gs_nil)))) (ss_cons (s_set nd (e_mod (e_intc B.int (a_cons (e_var 3) (a_nil))) (e_var 1))) (ss_one (s_asg (e_add (e_ix (e_var 2) (e_var 5)) (e_mulI (e_var 4) (e_add (e_var 3) (e_int)))) (g_sub (e_var 2) (e_var 5)))))) (ss_one (s_ret (e_var 2))))
theorem sc__law_same : FnScope ["_law_got", "_law_due", "_law_lot_so", "_law_mine", "_law_its"] ["_law_got", "_law_due"] (defScope st__law_same) := ⟨rfl, rfl, rfl, by decide +kernel, rfl, by decide +kernel, by decide +kernel⟩
theorem okr__law_same {f : Addr} {fd : FuncData} (F : FnP K "_law_same" st__law_same f fd) (hm : mg "_law_same" = some (.ref f)) (B : Blt mg) : ∀ n : Nat, Cal P w K mg base "_law_same" (n + 0) 2 (f__law_same n)
  | 0 => cal_bad F sc__law_same rfl hm (fun _ _ _ _ _ _ us hl => match us, hl with | [_, _], _ => rfl)
  | n + 1 => have c__law_same := okr__law_same F hm B n
    have nd := sc__law_same.nd
    cal_of (ps := ["_law_got", "_law_due"]) F sc__law_same rfl hm (fun _ _ _ _ _ _ us hl => match us, hl with | [_, _], _ => rfl) fun cdv A outer s H E hr =>
    ss_cons (s_if (t_val (e_isiL (by rfl) B.isinstance (e_var 1) (c_cons (by rfl) B.list (by decide +kernel) (c_cons (by rfl) B.tuple (by decide +kernel) (c_nil))) (by decide))) (ss_cons (s_if (PW.pt (w_or (t_ne hr.units (e_isi (by rfl) B.isinstance (e_var 0) (c_cons (by rfl) B.list (by decide +kernel) (c_nil))) (e_isi (by rfl) B.isinstance (e_var 1) (c_cons (by rfl) B.list (by decide +kernel) (c_nil)))) (w_or1 (t_ne hr.units (e_isi (by rfl) B.isinstance (e_var 0) (c_cons (by rfl) B.tuple (by decide +kernel) (c_nil))) (e_isi (by rfl) B.isinstance (e_var 1) (c_cons (by rfl) B.tuple (by decide +kernel) (c_nil))))))) (ss_one (s_ret (e_bl))) (ss_nil)) (ss_one (s_ret (e_and (e_eq hr.units (e_len B.len (a_cons (e_var 0) (a_nil))) (e_len B.len (a_cons (e_var 1) (a_nil)))) (e_one (e_all B.all (a_cons (e_lc (own := [("_law_mine", 3), ("_law_its", 4)]) rfl nd (i_zip B.zip (a_cons (e_var 0) (a_cons (e_var 1) (a_nil)))) (by exact blkOk_by (N := ["_law_got", "_law_due", "_law_lot_so", "_law_mine", "_law_its"]) (sc := defScope st__law_same) (by decide +kernel)) (fun _ _ _ _ _ => pg_tup rfl (pgs_cons (pg_name (i := 3) nd rfl (by first | exact Or.inl rfl | exact Or.inr rfl)) (pgs_cons (pg_name (i := 4) nd rfl (by first | exact Or.inl rfl | exact Or.inr rfl)) (pgs_nil)))) (fun _ _ _ _ _ => ts_nil) (fun _ _ _ _ _ => e_callC c__law_same (hr.mono (by omega)) (a_cons (e_var 3) (a_cons (e_var 4) (a_nil)))) (ct_two (by decide) (by decide))) (a_nil)))))))) (ss_nil)) (ss_cons (s_if (t_val (e_isi (by rfl) B.isinstance (e_var 1) (c_cons (by rfl) B.dict (by decide +kernel) (c_nil)))) (ss_cons (s_if (PW.pt (w_or (t_not (t_val (e_isi (by rfl) B.isinstance (e_var 0) (c_cons (by rfl) B.dict (by decide +kernel) (c_nil))))) (w_or1 (t_ne hr.units (e_sortedY B.sorted (a_cons (e_var 0) (a_nil))) (e_sortedY B.sorted (a_cons (e_var 1) (a_nil))))))) (ss_one (s_ret (e_bl))) (ss_nil)) (ss_one (s_ret (e_all B.all (a_cons (e_lc (own := [("_law_lot_so", 2)]) rfl nd (i_seq (e_var 1)) (by exact blkOk_by (N := ["_law_got", "_law_due", "_law_lot_so", "_law_mine", "_law_its"]) (sc := defScope st__law_same) (by decide +kernel)) (fun _ _ _ _ _ => pg_name (i := 2) nd rfl (by first | exact Or.inl rfl | exact Or.inr rfl)) (fun _ _ _ _ _ => ts_nil) (fun _ _ _ _ _ => e_callC c__law_same (hr.mono (by omega)) (a_cons (e_ix (e_var 0) (e_var 2)) (a_cons (e_ix (e_var 1) (e_var 2)) (a_nil)))) (ct_name (by decide))) (a_nil)))))) (ss_nil)) (ss_cons (s_if (PW.pt (w_or (t_isN (e_var 1)) (w_or1 (t_val (e_isiL (by rfl) B.isinstance (e_var 1) (c_cons (by rfl) B.bool (by decide +kernel) (c_cons (by rfl) B.str (by decide +kernel) (c_nil))) (by decide)))))) (ss_one (s_ret (e_and (e_eq hr.units (e_var 0) (e_var 1)) (e_and (e_eq hr.units (e_isi (by rfl) B.isinstance (e_var 0) (c_cons (by rfl) B.bool (by decide +kernel) (c_nil))) (e_isi (by rfl) B.isinstance (e_var 1) (c_cons (by rfl) B.bool (by decide +kernel) (c_nil)))) (e_one (e_eq hr.units (e_isN (e_var 0)) (e_isN (e_var 1)))))))) (ss_nil)) (ss_one (s_ret (e_and (e_isi (by rfl) B.isinstance (e_var 0) (c_cons (by rfl) B.int (by decide +kernel) (c_nil))) (e_and (e_not (e_isi (by rfl) B.isinstance (e_var 0) (c_cons (by rfl) B.bool (by decide +kernel) (c_nil)))) (e_one (e_eq hr.units (e_var 0) (e_var 1)))))))))
theorem ok__law_same {f : Addr} {fd : FuncData} (F : FnP K "_law_same" st__law_same f fd) (hm : mg "_law_same" = some (.ref f)) (B : Blt mg) : Cal P w K mg base "_law_same" 8 2 (f__law_same 8) := (okr__law_same F hm B 8).up (by decide)
theorem sc__law_kin : FnScope ["_law_tin", "_law_most", "_law_more", "_law_low_so", "_law_high_so", "_law_extra"] ["_law_tin", "_law_most", "_law_more"] (defScope st__law_kin) := ⟨rfl, rfl, rfl, by decide +kernel, rfl, by decide +kernel, by decide +kernel⟩
theorem ok__law_kin {f : Addr} {fd : FuncData} (F : FnP K "_law_kin" st__law_kin f fd) (hm : mg "_law_kin" = some (.ref f)) (B : Blt mg) (c__law_take : Cal P w K mg base "_law_take" 1 2 f__law_take) : Cal P w K mg base "_law_kin" 2 3 f__law_kin :=
  have nd := sc__law_kin.nd
  cal_of (ps := ["_law_tin", "_law_most", "_law_more"]) F sc__law_kin rfl hm (fun _ _ _ _ _ _ us hl => match us, hl with | [_, _, _], _ => rfl) fun cdv A outer s H E hr =>
    ss_cons (s_set nd (e_add (e_int) (e_callC c__law_take (hr.mono (by decide)) (a_cons (e_var 0) (a_cons (e_var 1) (a_nil)))))) (ss_cons (s_set nd (e_add (e_var 3) (e_callC c__law_take (hr.mono (by decide)) (a_cons (e_var 0) (a_cons (e_sub (e_add (e_var 1) (e_int)) (e_var 3)) (a_nil)))))) (ss_cons (s_set nd (e_callC c__law_take (hr.mono (by decide)) (a_cons (e_var 0) (a_cons (e_add (e_var 2) (e_int)) (a_nil))))) (ss_one (s_ret (e_tup (a_cons (e_var 4) (a_cons (e_var 3) (a_cons (e_if (t_eq hr.units (e_var 4) (e_var 3)) (e_max B.max (a_cons (e_int) (a_cons (e_var 5) (a_nil)))) (e_var 5)) (a_nil)))))))))
theorem sc__law_next : FnScope ["_law_kin_here", "_law_much"] ["_law_kin_here", "_law_much"] (defScope st__law_next) := ⟨rfl, rfl, rfl, by decide +kernel, rfl, by decide +kernel, by decide +kernel⟩
theorem ok__law_next {f : Addr} {fd : FuncData} (F : FnP K "_law_next" st__law_next f fd) (hm : mg "_law_next" = some (.ref f)) (B : Blt mg) : Cal P w K mg base "_law_next" 1 2 f__law_next :=
  have nd := sc__law_next.nd
  cal_of (ps := ["_law_kin_here", "_law_much"]) F sc__law_next rfl hm (fun _ _ _ _ _ _ us hl => match us, hl with | [_, _], _ => rfl) fun cdv A outer s H E hr =>
    ss_one (s_ret (e_add (e_div (e_mulI (e_ix (e_var 0) (e_int)) (e_var 1)) (e_ix (e_var 0) (e_int))) (e_ix (e_var 0) (e_int))))
theorem sc__law_least : FnScope ["_law_kin_here", "_law_much"] ["_law_kin_here"] (defScope st__law_least) := ⟨rfl, rfl, rfl, by decide +kernel, rfl, by decide +kernel, by decide +kernel⟩
theorem ok__law_least {f : Addr} {fd : FuncData} (F : FnP K "_law_least" st__law_least f fd) (hm : mg "_law_least" = some (.ref f)) (B : Blt mg) (c__law_next : Cal P w K mg base "_law_next" 1 2 f__law_next) : Cal P w K mg base "_law_least" 2 1 f__law_least :=
  have nd := sc__law_least.nd
  cal_of (ps := ["_law_kin_here"]) F sc__law_least rfl hm (fun _ _ _ _ _ _ us hl => match us, hl with | [_], _ => rfl) fun cdv A outer s H E hr =>
    ss_cons (s_set nd (e_int)) (ss_cons (s_while PassesOwn.never (t_le (e_callC c__law_next (hr.mono (by decide)) (a_cons (e_var 0) (a_cons (e_var 1) (a_nil)))) (e_var 1)) (ss_one (s_set nd (e_add (e_var 1) (e_int))))) (ss_one (s_ret (e_var 1))))
theorem sc__law_first : FnScope ["_law_tin", "_law_kin_here", "_law_far"] ["_law_tin", "_law_kin_here", "_law_far"] (defScope st__law_first) := ⟨rfl, rfl, rfl, by decide +kernel, rfl, by decide +kernel, by decide +kernel⟩
theorem ok__law_first {f : Addr} {fd : FuncData} (F : FnP K "_law_first" st__law_first f fd) (hm : mg "_law_first" = some (.ref f)) (B : Blt mg) (c__law_least : Cal P w K mg base "_law_least" 2 1 f__law_least) (c__law_take : Cal P w K mg base "_law_take" 1 2 f__law_take) : Cal P w K mg base "_law_first" 3 3 f__law_first :=
  have nd := sc__law_first.nd
  cal_of (ps := ["_law_tin", "_law_kin_here", "_law_far"]) F sc__law_first rfl hm (fun _ _ _ _ _ _ us hl => match us, hl with | [_, _, _], _ => rfl) fun cdv A outer s H E hr =>
    ss_one (s_ret (e_add (e_callC c__law_least (hr.mono (by decide)) (a_cons (e_var 1) (a_nil))) (e_callC c__law_take (hr.mono (by decide)) (a_cons (e_var 0) (a_cons (e_add (e_var 2) (e_int)) (a_nil))))))
theorem sc__law_taken : FnScope ["_law_lots_here", "_law_found", "_law_spot", "_law_cells_here"] ["_law_lots_here"] (defScope st__law_taken) := ⟨rfl, rfl, rfl, by decide +kernel, rfl, by decide +kernel, by decide +kernel⟩
theorem ok__law_taken {f : Addr} {fd : FuncData} (F : FnP K "_law_taken" st__law_taken f fd) (hm : mg "_law_taken" = some (.ref f)) (B : Blt mg) : Cal P w K mg base "_law_taken" 1 1 f__law_taken :=
  have nd := sc__law_taken.nd
  cal_of (ps := ["_law_lots_here"]) F sc__law_taken rfl hm (fun _ _ _ _ _ _ us hl => match us, hl with | [_], _ => rfl) fun cdv A outer s H E hr =>
    ss_cons (s_set nd (e_lstI (a_nil))) (ss_cons (s_for PassesOwn.never rfl (i_seq (e_var 0)) (g_tup rfl (gs_cons (g_name nd) (gs_cons (g_name nd) (gs_nil)))) (ss_one (s_set nd (e_add (e_var 1) (e_lstR2 B.list B.range (e_var 2) (e_add (e_var 2) (e_var 3))))))) (ss_one (s_ret (e_var 1))))
theorem sc__law_pairs : FnScope ["_law_taken_here", "_law_found", "_law_spot"] ["_law_taken_here"] (defScope st__law_pairs) := ⟨rfl, rfl, rfl, by decide +kernel, rfl, by decide +kernel, by decide +kernel⟩
theorem ok__law_pairs {f : Addr} {fd : FuncData} (F : FnP K "_law_pairs" st__law_pairs f fd) (hm : mg "_law_pairs" = some (.ref f)) (B : Blt mg) : Cal P w K mg base "_law_pairs" 1 1 f__law_pairs :=
  have nd := sc__law_pairs.nd
  cal_of (ps := ["_law_taken_here"]) F sc__law_pairs rfl hm (fun _ _ _ _ _ _ us hl => match us, hl with | [_], _ => rfl) fun cdv A outer s H E hr =>
    ss_cons (s_set nd (e_lst (a_nil))) (ss_cons (s_for PassesOwn.never rfl (i_seq (e_sortSet B.sorted B.set hr.units (e_var 0))) (g_name nd) (ss_one (s_if (PW.pt (w_and (t_ne hr.units (e_var 1) (e_lstI (a_nil))) (w_and1 (t_eq hr.units (e_add (e_ix (e_ix (e_var 1) (e_neg (e_int))) (e_int)) (e_ix (e_ix (e_var 1) (e_neg (e_int))) (e_int))) (e_var 2))))) (ss_one (s_asg (e_tup (a_cons (e_ix (e_ix (e_var 1) (e_neg (e_int))) (e_int)) (a_cons (e_add (e_ix (e_ix (e_var 1) (e_neg (e_int))) (e_int)) (e_int)) (a_nil)))) (g_sub (e_var 1) (e_neg (e_int))))) (ss_one (s_expr (e_append (e_var 1) (a_cons (e_tup (a_cons (e_var 2) (a_cons (e_int) (a_nil)))) (a_nil)))))))) (ss_one (s_ret (e_tuple B.tuple (a_cons (e_var 1) (a_nil))))))
theorem sc__law_lowest : FnScope ["_law_lots_here", "_law_much", "_law_spot", "_law_low_so", "_law_cells_here"] ["_law_lots_here", "_law_much"] (defScope st__law_lowest) := ⟨rfl, rfl, rfl, by decide +kernel, rfl, by decide +kernel, by decide +kernel⟩
theorem ok__law_lowest {f : Addr} {fd : FuncData} (F : FnP K "_law_lowest" st__law_lowest f fd) (hm : mg "_law_lowest" = some (.ref f)) (B : Blt mg) : Cal P w K mg base "_law_lowest" 1 2 f__law_lowest :=
  have nd := sc__law_lowest.nd
  cal_of (ps := ["_law_lots_here", "_law_much"]) F sc__law_lowest rfl hm (fun _ _ _ _ _ _ us hl => match us, hl with | [_, _], _ => rfl) fun cdv A outer s H E hr =>
    ss_cons (s_set nd (e_int)) (ss_cons (s_for PassesOwn.never rfl (i_seq (e_sortedY B.sorted (a_cons (e_var 0) (a_nil)))) (g_tup rfl (gs_cons (g_name nd) (gs_cons (g_name nd) (gs_nil)))) (ss_one (s_if (PW.pt (w_and (t_gt (e_add (e_var 2) (e_var 1)) (e_var 3)) (w_and1 (t_lt (e_var 2) (e_add (e_var 3) (e_var 4)))))) (ss_one (s_set nd (e_add (e_var 3) (e_var 4)))) (ss_nil)))) (ss_one (s_ret (e_var 2))))
theorem sc__law_among : FnScope ["_law_kin_here", "_law_lots_here", "_law_first_here", "_law_many", "_law_turn_so", "_law_rows_so", "_law_much"] ["_law_kin_here", "_law_lots_here", "_law_first_here", "_law_many"] (defScope st__law_among) := ⟨rfl, rfl, rfl, by decide +kernel, rfl, by decide +kernel, by decide +kernel⟩
theorem ok__law_among {f : Addr} {fd : FuncData} (F : FnP K "_law_among" st__law_among f fd) (hm : mg "_law_among" = some (.ref f)) (B : Blt mg) (c__law_next : Cal P w K mg base "_law_next" 1 2 f__law_next) (c__law_lowest : Cal P w K mg base "_law_lowest" 1 2 f__law_lowest) : Cal P w K mg base "_law_among" 2 4 f__law_among :=
  have nd := sc__law_among.nd
  cal_of (ps := ["_law_kin_here", "_law_lots_here", "_law_first_here", "_law_many"]) F sc__law_among rfl hm (fun _ _ _ _ _ _ us hl => match us, hl with | [_, _, _, _], _ => rfl) fun cdv A outer s H E hr =>
    ss_cons (s_par rfl nd (a_cons (e_lst (a_cons (e_tup (a_cons (e_callC c__law_lowest (hr.mono (by decide)) (a_cons (e_var 1) (a_cons (e_var 2) (a_nil)))) (a_cons (e_var 2) (a_nil)))) (a_nil))) (a_cons (e_var 2) (a_nil)))) (ss_cons (s_for PassesOwn.never rfl (i_rng1 B.range (a_cons (e_var 3) (a_nil))) (g_name nd) (ss_cons (s_set nd (e_callC c__law_next (hr.mono (by decide)) (a_cons (e_var 0) (a_cons (e_var 6) (a_nil))))) (ss_one (s_expr (e_append (e_var 5) (a_cons (e_tup (a_cons (e_callC c__law_lowest (hr.mono (by decide)) (a_cons (e_add (e_list B.list (a_cons (e_var 1) (a_nil))) (e_lstI (a_cons (e_ix (e_var 5) (e_neg (e_int))) (a_nil)))) (a_cons (e_var 6) (a_nil)))) (a_cons (e_var 6) (a_nil)))) (a_nil))))))) (ss_one (s_ret (e_var 5))))
theorem sc__law_lots : FnScope ["_law_tin", "_law_turn_so", "_law_found", "_law_spot", "_law_cells_here"] ["_law_tin"] (defScope st__law_lots) := ⟨rfl, rfl, rfl, by decide +kernel, rfl, by decide +kernel, by decide +kernel⟩
theorem ok__law_lots {f : Addr} {fd : FuncData} (F : FnP K "_law_lots" st__law_lots f fd) (hm : mg "_law_lots" = some (.ref f)) (B : Blt mg) (c__law_take : Cal P w K mg base "_law_take" 1 2 f__law_take) : Cal P w K mg base "_law_lots" 2 1 f__law_lots :=
  have nd := sc__law_lots.nd
  cal_of (ps := ["_law_tin"]) F sc__law_lots rfl hm (fun _ _ _ _ _ _ us hl => match us, hl with | [_], _ => rfl) fun cdv A outer s H E hr =>
    ss_cons (s_par rfl nd (a_cons (e_lst (a_nil)) (a_cons (e_callC c__law_take (hr.mono (by decide)) (a_cons (e_var 0) (a_cons (e_int) (a_nil)))) (a_nil)))) (ss_cons (s_for PassesOwn.never rfl (i_rng1 B.range (a_cons (e_callC c__law_take (hr.mono (by decide)) (a_cons (e_var 0) (a_cons (e_int) (a_nil)))) (a_nil))) (g_name nd) (ss_cons (s_set nd (e_add (e_int) (e_callC c__law_take (hr.mono (by decide)) (a_cons (e_var 0) (a_cons (e_int) (a_nil)))))) (ss_cons (s_expr (e_append (e_var 2) (a_cons (e_tup (a_cons (e_var 3) (a_cons (e_var 4) (a_nil)))) (a_nil)))) (ss_one (s_set nd (e_add (e_add (e_var 3) (e_var 4)) (e_callC c__law_take (hr.mono (by decide)) (a_cons (e_var 0) (a_cons (e_int) (a_nil)))))))))) (ss_one (s_ret (e_tuple B.tuple (a_cons (e_var 2) (a_nil))))))
theorem sc__law_lots_right : FnScope ["_law_lots_here", "_law_mate", "_law_taken_here", "_law_far", "_law_free_so", "_law_got", "_law_both_so", "_law_due", "_law_much", "_law_beside", "_law_own", "_law_spot", "_law_cells_here"] ["_law_lots_here", "_law_mate"] (defScope st__law_lots_right) := ⟨rfl, rfl, rfl, by decide +kernel, rfl, by decide +kernel, by decide +kernel⟩
theorem ok__law_lots_right {f : Addr} {fd : FuncData} (F : FnP K "_law_lots_right" st__law_lots_right f fd) (hm : mg "_law_lots_right" = some (.ref f)) (B : Blt mg) (c__law_taken : Cal P w K mg base "_law_taken" 1 1 f__law_taken) (c__law_pairs : Cal P w K mg base "_law_pairs" 1 1 (gZ false pairsS)) (c__law_same : Cal P w K mg base "_law_same" 8 2 (gZ false sameF)) (c_is_stays : Cal P w K mg base "is_stays" 2 1 f_is_stays) (c_end_of : Cal P w K mg base "end_of" 1 1 f_end_of) (c_holes : Cal P w K mg base "holes" 1 1 (gZ false holesS)) (c_plain_stays : Cal P w K mg base "plain_stays" 9 1 (gZ false plainS)) (c_both_stays : Cal P w K mg base "both_stays" 10 2 f_both_stays) (c__law_lowest : Cal P w K mg base "_law_lowest" 1 2 f__law_lowest) (c_lowest_beside : Cal P w K mg base "lowest_beside" 9 3 f_lowest_beside) (c_how_many_places : Cal P w K mg base "how_many_places" 2 2 f_how_many_places) (c_lowest_place : Cal P w K mg base "lowest_place" 1 2 f_lowest_place) : Cal P w K mg base "_law_lots_right" 11 2 f__law_lots_right :=
  have nd := sc__law_lots_right.nd
  cal_of (ps := ["_law_lots_here", "_law_mate"]) F sc__law_lots_right rfl hm (fun _ _ _ _ _ _ us hl => match us, hl with | [_, _], _ => rfl) fun cdv A outer s H E hr =>
    ss_cons (s_set nd (e_callC c__law_taken (hr.mono (by decide)) (a_cons (e_var 0) (a_nil)))) (ss_cons (s_set nd (e_max B.max (a_cons (e_add (e_lstI (a_cons (e_int) (a_nil))) (e_lc (own := [("_law_own", 10)]) rfl nd (i_seq (e_var 2)) (by exact blkOk_by (N := ["_law_lots_here", "_law_mate", "_law_taken_here", "_law_far", "_law_free_so", "_law_got", "_law_both_so", "_law_due", "_law_much", "_law_beside", "_law_own", "_law_spot", "_law_cells_here"]) (sc := defScope st__law_lots_right) (by decide +kernel)) (fun _ _ _ _ _ => pg_name (i := 10) nd rfl (by first | exact Or.inl rfl | exact Or.inr rfl)) (fun _ _ _ _ _ => ts_nil) (fun _ _ _ _ _ => e_add (e_var 10) (e_int)) (ct_name (by decide)))) (a_nil)))) (ss_cons (s_set nd (e_callC c__law_pairs (hr.mono (by decide)) (a_cons (e_lc (own := [("_law_own", 10)]) rfl nd (i_rng1 B.range (a_cons (e_var 3) (a_nil))) (by exact blkOk_by (N := ["_law_lots_here", "_law_mate", "_law_taken_here", "_law_far", "_law_free_so", "_law_got", "_law_both_so", "_law_due", "_law_much", "_law_beside", "_law_own", "_law_spot", "_law_cells_here"]) (sc := defScope st__law_lots_right) (by decide +kernel)) (fun _ _ _ _ _ => pg_name (i := 10) nd rfl (by first | exact Or.inl rfl | exact Or.inr rfl)) (fun _ _ _ _ _ => ts_one (t_ninX hr.units65 (e_var 10) (e_var 2))) (fun _ _ _ _ _ => e_var 10) (ct_name (by decide))) (a_nil)))) (ss_cons (s_set nd (e_lst (a_cons (e_callC c_is_stays (hr.mono (by decide)) (a_cons (e_var 0) (a_nil))) (a_cons (e_callC c_end_of (hr.mono (by decide)) (a_cons (e_var 0) (a_nil))) (a_cons (e_callC c_holes (hr.mono (by decide)) (a_cons (e_var 0) (a_nil))) (a_cons (e_callC c_plain_stays (hr.mono (by decide)) (a_cons (e_var 0) (a_nil))) (a_cons (e_callC c_both_stays (hr.mono (by decide)) (a_cons (e_var 0) (a_cons (e_var 1) (a_nil)))) (a_nil)))))))) (ss_cons (s_expr (e_append (e_var 5) (a_cons (e_callC c_both_stays (hr.mono (by decide)) (a_cons (e_var 1) (a_cons (e_var 0) (a_nil)))) (a_nil)))) (ss_cons (s_set nd (e_callC c__law_pairs (hr.mono (by decide)) (a_cons (e_add (e_var 2) (e_callC c__law_taken (hr.mono (by decide)) (a_cons (e_var 1) (a_nil)))) (a_nil)))) (ss_cons (s_set nd (e_lstI (a_cons (e_bl) (a_cons (e_var 3) (a_cons (e_var 4) (a_cons (e_callC c__law_pairs (hr.mono (by decide)) (a_cons (e_var 2) (a_nil))) (a_cons (e_var 6) (a_cons (e_var 6) (a_nil))))))))) (ss_cons (s_for PassesOwn.never rfl (i_rng2 B.range (a_cons (e_int) (a_cons (e_int) (a_nil)))) (g_name nd) (ss_cons (s_set nd (e_addT (e_var 5) (e_lstI (a_cons (e_callC c_how_many_places (hr.mono (by decide)) (a_cons (e_var 0) (a_cons (e_var 8) (a_nil)))) (a_cons (e_callC c_lowest_place (hr.mono (by decide)) (a_cons (e_var 0) (a_cons (e_var 8) (a_nil)))) (a_nil)))))) (ss_one (s_set nd (e_add (e_var 7) (e_lstI (a_cons (e_sum B.sum (a_cons (e_lc (own := [("_law_spot", 11), ("_law_cells_here", 12)]) rfl nd (i_seq (e_var 4)) (by exact blkOk_by (N := ["_law_lots_here", "_law_mate", "_law_taken_here", "_law_far", "_law_free_so", "_law_got", "_law_both_so", "_law_due", "_law_much", "_law_beside", "_law_own", "_law_spot", "_law_cells_here"]) (sc := defScope st__law_lots_right) (by decide +kernel)) (fun _ _ _ _ _ => pg_tup rfl (pgs_cons (pg_name (i := 11) nd rfl (by first | exact Or.inl rfl | exact Or.inr rfl)) (pgs_cons (pg_name (i := 12) nd rfl (by first | exact Or.inl rfl | exact Or.inr rfl)) (pgs_nil)))) (fun _ _ _ _ _ => ts_nil) (fun _ _ _ _ _ => e_max B.max (a_cons (e_int) (a_cons (e_add (e_sub (e_var 12) (e_var 8)) (e_int)) (a_nil)))) (ct_two (by decide) (by decide))) (a_nil))) (a_cons (e_callC c__law_lowest (hr.mono (by decide)) (a_cons (e_var 0) (a_cons (e_var 8) (a_nil)))) (a_nil))))))))) (ss_cons (s_set nd (e_tup (a_cons (e_callC c__law_lowest (hr.mono (by decide)) (a_cons (e_var 0) (a_cons (e_int) (a_nil)))) (a_cons (e_int) (a_nil))))) (ss_cons (s_expr (e_append (e_var 5) (a_cons (e_lc (own := [("_law_much", 8)]) rfl nd (i_rng2 B.range (a_cons (e_int) (a_cons (e_int) (a_nil)))) (by exact blkOk_by (N := ["_law_lots_here", "_law_mate", "_law_taken_here", "_law_far", "_law_free_so", "_law_got", "_law_both_so", "_law_due", "_law_much", "_law_beside", "_law_own", "_law_spot", "_law_cells_here"]) (sc := defScope st__law_lots_right) (by decide +kernel)) (fun _ _ _ _ _ => pg_name (i := 8) nd rfl (by first | exact Or.inl rfl | exact Or.inr rfl)) (fun _ _ _ _ _ => ts_nil) (fun _ _ _ _ _ => e_callC c_lowest_beside (hr.mono (by decide)) (a_cons (e_var 0) (a_cons (e_var 9) (a_cons (e_var 8) (a_nil))))) (ct_name (by decide))) (a_nil)))) (ss_one (s_ret (e_callC c__law_same (hr.mono (by decide)) (a_cons (e_var 5) (a_cons (e_add (e_var 7) (e_lstI (a_cons (e_lc (own := [("_law_much", 8)]) rfl nd (i_rng2 B.range (a_cons (e_int) (a_cons (e_int) (a_nil)))) (by exact blkOk_by (N := ["_law_lots_here", "_law_mate", "_law_taken_here", "_law_far", "_law_free_so", "_law_got", "_law_both_so", "_law_due", "_law_much", "_law_beside", "_law_own", "_law_spot", "_law_cells_here"]) (sc := defScope st__law_lots_right) (by decide +kernel)) (fun _ _ _ _ _ => pg_name (i := 8) nd rfl (by first | exact Or.inl rfl | exact Or.inr rfl)) (fun _ _ _ _ _ => ts_nil) (fun _ _ _ _ _ => e_callC c__law_lowest (hr.mono (by decide)) (a_cons (e_add (e_list B.list (a_cons (e_var 0) (a_nil))) (e_lstI (a_cons (e_var 9) (a_nil)))) (a_cons (e_var 8) (a_nil)))) (ct_name (by decide))) (a_nil)))) (a_nil)))))))))))))))
theorem sc__law_case_right : FnScope ["_law_kin_here", "_law_lots_here", "_law_first_here", "_law_many", "_law_ahead", "_law_got", "_law_wide", "_law_last", "_law_gone_so", "_law_rest", "_law_rows_so", "_law_far", "_law_free_so", "_law_used", "_law_spot", "_law_cells_here", "_law_inside", "_law_k", "_law_own"] ["_law_kin_here", "_law_lots_here", "_law_first_here", "_law_many"] (defScope st__law_case_right) := ⟨rfl, rfl, rfl, by decide +kernel, rfl, by decide +kernel, by decide +kernel⟩
theorem ok__law_case_right {f : Addr} {fd : FuncData} (F : FnP K "_law_case_right" st__law_case_right f fd) (hm : mg "_law_case_right" = some (.ref f)) (B : Blt mg) (c__law_among : Cal P w K mg base "_law_among" 2 4 (gZ true amongS)) (c__law_same : Cal P w K mg base "_law_same" 8 2 (gZ false sameF)) (c_end_of : Cal P w K mg base "end_of" 1 1 f_end_of) (c_holes : Cal P w K mg base "holes" 1 1 (gZ false holesS)) (c_last_ahead : Cal P w K mg base "last_ahead" 11 3 f_last_ahead) (c_goes_free : Cal P w K mg base "goes_free" 11 3 f_goes_free) (c_holes_used : Cal P w K mg base "holes_used" 11 3 (gZ false usedS)) (c_stays_run : Cal P w K mg base "stays_run" 9 4 (gZ false srunS)) (c_ahead_at : Cal P w K mg base "ahead_at" 10 4 f_ahead_at) (c_places : Cal P w K mg base "places" 5 3 f_places) : Cal P w K mg base "_law_case_right" 12 4 f__law_case_right :=
  have nd := sc__law_case_right.nd
  cal_of (ps := ["_law_kin_here", "_law_lots_here", "_law_first_here", "_law_many"]) F sc__law_case_right rfl hm (fun _ _ _ _ _ _ us hl => match us, hl with | [_, _, _, _], _ => rfl) fun cdv A outer s H E hr =>
    ss_cons (s_asg (e_tup (a_cons (e_callC c__law_among (hr.mono (by decide)) (a_cons (e_var 0) (a_cons (e_var 1) (a_cons (e_var 2) (a_cons (e_var 3) (a_nil)))))) (a_cons (e_callC c_end_of (hr.mono (by decide)) (a_cons (e_var 1) (a_nil))) (a_nil)))) (g_tup rfl (gs_cons (g_name nd) (gs_cons (g_name nd) (gs_nil))))) (ss_cons (s_setLc (own := [("_law_k", 17)]) rfl nd (i_rng1 B.range (a_cons (e_add (e_var 3) (e_int)) (a_nil))) (by exact blkOk_by (N := ["_law_kin_here", "_law_lots_here", "_law_first_here", "_law_many", "_law_ahead", "_law_got", "_law_wide", "_law_last", "_law_gone_so", "_law_rest", "_law_rows_so", "_law_far", "_law_free_so", "_law_used", "_law_spot", "_law_cells_here", "_law_inside", "_law_k", "_law_own"]) (sc := defScope st__law_case_right) (by decide +kernel)) (fun _ _ _ _ _ => pg_name (i := 17) nd rfl (by first | exact Or.inl rfl | exact Or.inr rfl)) (fun _ _ _ _ _ => ts_one (t_lt (e_ix (e_ix (e_var 10) (e_var 17)) (e_int)) (e_var 11))) (fun _ _ _ _ _ => e_var 17) (ct_name (by decide))) (ss_cons (s_set nd (e_lstI (a_cons (e_list B.list (a_cons (e_callC c_stays_run (hr.mono (by decide)) (a_cons (e_var 0) (a_cons (e_var 1) (a_cons (e_var 2) (a_cons (e_var 3) (a_nil)))))) (a_nil))) (a_cons (e_list B.list (a_cons (e_callC c_ahead_at (hr.mono (by decide)) (a_cons (e_var 0) (a_cons (e_var 1) (a_cons (e_var 2) (a_cons (e_var 3) (a_nil)))))) (a_nil))) (a_nil))))) (ss_cons (s_if (t_not (t_truth (e_callC c__law_same (hr.mono (by decide)) (a_cons (e_var 5) (a_cons (e_lstI (a_cons (e_var 10) (a_cons (e_var 4) (a_nil)))) (a_nil)))))) (ss_one (s_ret (e_bl))) (ss_nil)) (ss_cons (s_set nd (e_callC c__law_among (hr.mono (by decide)) (a_cons (e_var 0) (a_cons (e_var 1) (a_cons (e_var 2) (a_cons (e_int) (a_nil))))))) (ss_cons (s_setLc (own := [("_law_k", 17)]) rfl nd (i_rng1 B.range (a_cons (e_int) (a_nil))) (by exact blkOk_by (N := ["_law_kin_here", "_law_lots_here", "_law_first_here", "_law_many", "_law_ahead", "_law_got", "_law_wide", "_law_last", "_law_gone_so", "_law_rest", "_law_rows_so", "_law_far", "_law_free_so", "_law_used", "_law_spot", "_law_cells_here", "_law_inside", "_law_k", "_law_own"]) (sc := defScope st__law_case_right) (by decide +kernel)) (fun _ _ _ _ _ => pg_name (i := 17) nd rfl (by first | exact Or.inl rfl | exact Or.inr rfl)) (fun _ _ _ _ _ => ts_one (t_lt (e_ix (e_ix (e_var 6) (e_var 17)) (e_int)) (e_var 11))) (fun _ _ _ _ _ => e_var 17) (ct_name (by decide))) (ss_cons (s_set nd (e_if (t_ne hr.units (e_var 7) (e_lstI (a_nil))) (e_add (e_ix (e_var 7) (e_neg (e_int))) (e_int)) (e_int))) (ss_cons (s_par rfl nd (a_cons (e_callC c_holes (hr.mono (by decide)) (a_cons (e_var 1) (a_nil))) (a_cons (e_lstI (a_nil)) (a_nil)))) (ss_cons (s_for PassesOwn.never rfl (i_seq (e_var 12)) (g_tup rfl (gs_cons (g_name nd) (gs_cons (g_name nd) (gs_nil)))) (ss_cons (s_setLc (own := [("_law_own", 18)]) rfl nd (i_seq (e_var 6)) (by exact blkOk_by (N := ["_law_kin_here", "_law_lots_here", "_law_first_here", "_law_many", "_law_ahead", "_law_got", "_law_wide", "_law_last", "_law_gone_so", "_law_rest", "_law_rows_so", "_law_far", "_law_free_so", "_law_used", "_law_spot", "_law_cells_here", "_law_inside", "_law_k", "_law_own"]) (sc := defScope st__law_case_right) (by decide +kernel)) (fun _ _ _ _ _ => pg_name (i := 18) nd rfl (by first | exact Or.inl rfl | exact Or.inr rfl)) (fun _ _ _ _ _ => ts_one (t_lelt (e_var 14) (e_ix (e_var 18) (e_int)) (e_add (e_var 14) (e_var 15)))) (fun _ _ _ _ _ => e_var 18) (ct_name (by decide))) (ss_one (s_set nd (e_add (e_var 13) (e_mulA (e_lstI (a_cons (e_tup (a_cons (e_var 14) (a_cons (e_var 15) (a_nil)))) (a_nil))) (e_intc B.int (a_cons (e_ne hr.units (e_var 16) (e_lstI (a_nil))) (a_nil))))))))) (ss_cons (s_set nd (e_lstI (a_cons (e_callC c_last_ahead (hr.mono (by decide)) (a_cons (e_var 0) (a_cons (e_var 1) (a_cons (e_var 2) (a_nil))))) (a_cons (e_callC c_goes_free (hr.mono (by decide)) (a_cons (e_var 0) (a_cons (e_var 1) (a_cons (e_var 2) (a_nil))))) (a_cons (e_callC c_holes_used (hr.mono (by decide)) (a_cons (e_var 0) (a_cons (e_var 1) (a_cons (e_var 2) (a_nil))))) (a_nil)))))) (ss_cons (s_if (t_not (t_truth (e_callC c__law_same (hr.mono (by decide)) (a_cons (e_var 5) (a_cons (e_lstI (a_cons (e_if (t_ne hr.units (e_var 7) (e_lstI (a_nil))) (e_ix (e_var 7) (e_neg (e_int))) (e_non)) (a_cons (e_tup (a_cons (e_var 8) (a_cons (e_ix (e_ix (e_var 6) (e_var 8)) (e_int)) (a_nil)))) (a_cons (e_tuple B.tuple (a_cons (e_var 13) (a_nil))) (a_nil))))) (a_nil)))))) (ss_one (s_ret (e_bl))) (ss_nil)) (ss_cons (s_setLc (own := [("_law_own", 18)]) rfl nd (i_seq (e_sl (e_var 6) (o_some (e_var 8)) (o_none))) (by exact blkOk_by (N := ["_law_kin_here", "_law_lots_here", "_law_first_here", "_law_many", "_law_ahead", "_law_got", "_law_wide", "_law_last", "_law_gone_so", "_law_rest", "_law_rows_so", "_law_far", "_law_free_so", "_law_used", "_law_spot", "_law_cells_here", "_law_inside", "_law_k", "_law_own"]) (sc := defScope st__law_case_right) (by decide +kernel)) (fun _ _ _ _ _ => pg_name (i := 18) nd rfl (by first | exact Or.inl rfl | exact Or.inr rfl)) (fun _ _ _ _ _ => ts_nil) (fun _ _ _ _ _ => e_sub (e_ix (e_var 18) (e_int)) (e_var 11)) (ct_name (by decide))) (ss_one (s_ret (e_callC c__law_same (hr.mono (by decide)) (a_cons (e_var 9) (a_cons (e_list B.list (a_cons (e_callC c_places (hr.mono (by decide)) (a_cons (e_var 0) (a_cons (e_ix (e_ix (e_var 6) (e_var 8)) (e_int)) (a_cons (e_sub (e_int) (e_var 8)) (a_nil))))) (a_nil))) (a_nil)))))))))))))))))
theorem sc__law_hand_right : FnScope ["_law_got", "_law_due", "_law_lots_here", "_law_half"] [] (defScope st__law_hand_right) := ⟨rfl, rfl, rfl, by decide +kernel, rfl, by decide +kernel, by decide +kernel⟩
theorem ok__law_hand_right {f : Addr} {fd : FuncData} (F : FnP K "_law_hand_right" st__law_hand_right f fd) (hm : mg "_law_hand_right" = some (.ref f)) (B : Blt mg) (c__law_case_right : Cal P w K mg base "_law_case_right" 12 4 (gZ false case12)) (c_holes : Cal P w K mg base "holes" 1 1 (gZ false holesS)) (c_end_of : Cal P w K mg base "end_of" 1 1 f_end_of) (c_lowest_place : Cal P w K mg base "lowest_place" 1 2 f_lowest_place) (c_how_many_places : Cal P w K mg base "how_many_places" 2 2 f_how_many_places) (c_both_stays : Cal P w K mg base "both_stays" 10 2 f_both_stays) (c_stays_run : Cal P w K mg base "stays_run" 9 4 (gZ false srunS)) (c_goes_free : Cal P w K mg base "goes_free" 11 3 f_goes_free) (c_last_ahead : Cal P w K mg base "last_ahead" 11 3 f_last_ahead) (c_holes_used : Cal P w K mg base "holes_used" 11 3 (gZ false usedS)) (c__law_same : Cal P w K mg base "_law_same" 8 2 (gZ false sameF)) (c__law_lots_right : Cal P w K mg base "_law_lots_right" 11 2 (gZ false lots12)) : Cal P w K mg base "_law_hand_right" 13 0 f__law_hand_right :=
  have nd := sc__law_hand_right.nd
  cal_of (ps := []) F sc__law_hand_right rfl hm (fun _ _ _ _ _ _ us hl => match us, hl with | [], _ => rfl) fun cdv A outer s H E hr =>
    ss_cons (s_asg (e_tup (a_cons (e_tup (a_cons (e_tup (a_cons (e_int) (a_cons (e_int) (a_nil)))) (a_cons (e_tup (a_cons (e_int) (a_cons (e_int) (a_nil)))) (a_nil)))) (a_cons (e_tup (a_cons (e_int) (a_cons (e_int) (a_cons (e_int) (a_nil))))) (a_nil)))) (g_tup rfl (gs_cons (g_name nd) (gs_cons (g_name nd) (gs_nil))))) (ss_cons (s_set nd (e_lstI (a_cons (e_callC c_holes (hr.mono (by decide)) (a_cons (e_var 2) (a_nil))) (a_cons (e_callC c_end_of (hr.mono (by decide)) (a_cons (e_var 2) (a_nil))) (a_cons (e_callC c_lowest_place (hr.mono (by decide)) (a_cons (e_var 2) (a_cons (e_int) (a_nil)))) (a_cons (e_callC c_lowest_place (hr.mono (by decide)) (a_cons (e_var 2) (a_cons (e_int) (a_nil)))) (a_cons (e_callC c_lowest_place (hr.mono (by decide)) (a_cons (e_var 2) (a_cons (e_int) (a_nil)))) (a_nil)))))))) (ss_cons (s_set nd (e_add (e_var 0) (e_lstI (a_cons (e_callC c_how_many_places (hr.mono (by decide)) (a_cons (e_var 2) (a_cons (e_int) (a_nil)))) (a_cons (e_callC c_both_stays (hr.mono (by decide)) (a_cons (e_var 2) (a_cons (e_tup (a_cons (e_tup (a_cons (e_int) (a_cons (e_int) (a_nil)))) (a_nil))) (a_nil)))) (a_nil)))))) (ss_cons (s_set nd (e_lstI (a_cons (e_tup (a_cons (e_tup (a_cons (e_int) (a_cons (e_int) (a_nil)))) (a_cons (e_tup (a_cons (e_int) (a_cons (e_int) (a_nil)))) (a_nil)))) (a_cons (e_int) (a_cons (e_int) (a_cons (e_int) (a_cons (e_int) (a_cons (e_int) (a_cons (e_tup (a_cons (e_tup (a_cons (e_int) (a_cons (e_int) (a_nil)))) (a_nil))) (a_nil)))))))))) (ss_cons (s_set nd (e_add (e_var 0) (e_lstI (a_cons (e_callC c_stays_run (hr.mono (by decide)) (a_cons (e_var 3) (a_cons (e_var 2) (a_cons (e_int) (a_cons (e_int) (a_nil)))))) (a_cons (e_callC c_goes_free (hr.mono (by decide)) (a_cons (e_var 3) (a_cons (e_var 2) (a_cons (e_int) (a_nil))))) (a_cons (e_callC c_last_ahead (hr.mono (by decide)) (a_cons (e_var 3) (a_cons (e_var 2) (a_cons (e_int) (a_nil))))) (a_nil))))))) (ss_cons (s_set nd (e_add (e_var 0) (e_lstI (a_cons (e_callC c_holes_used (hr.mono (by decide)) (a_cons (e_var 3) (a_cons (e_var 2) (a_cons (e_int) (a_nil))))) (a_cons (e_callC c_holes (hr.mono (by decide)) (a_cons (e_tup (a_nil)) (a_nil))) (a_nil)))))) (ss_cons (s_set nd (e_add (e_var 1) (e_lstI (a_cons (e_tup (a_cons (e_tup (a_cons (e_int) (a_cons (e_int) (a_nil)))) (a_cons (e_tup (a_cons (e_int) (a_cons (e_int) (a_nil)))) (a_cons (e_tup (a_cons (e_int) (a_cons (e_int) (a_nil)))) (a_cons (e_tup (a_cons (e_int) (a_cons (e_int) (a_nil)))) (a_cons (e_tup (a_cons (e_int) (a_cons (e_int) (a_nil)))) (a_nil))))))) (a_cons (e_tup (a_cons (e_int) (a_cons (e_int) (a_nil)))) (a_cons (e_int) (a_cons (e_tup (a_cons (e_tup (a_cons (e_int) (a_cons (e_int) (a_nil)))) (a_cons (e_tup (a_cons (e_int) (a_cons (e_int) (a_nil)))) (a_nil)))) (a_cons (e_tup (a_nil)) (a_nil))))))))) (ss_cons (s_if (PW.pt (w_or (t_not (t_truth (e_callC c__law_same (hr.mono (by decide)) (a_cons (e_var 0) (a_cons (e_var 1) (a_nil)))))) (w_or (t_not (t_truth (e_callC c__law_lots_right (hr.mono (by decide)) (a_cons (e_var 2) (a_cons (e_tup (a_nil)) (a_nil)))))) (w_or1 (t_not (t_truth (e_callC c__law_lots_right (hr.mono (by decide)) (a_cons (e_tup (a_nil)) (a_cons (e_var 2) (a_nil)))))))))) (ss_one (s_ret (e_bl))) (ss_nil)) (ss_cons (s_if (PW.pt (w_or (t_not (t_truth (e_callC c__law_case_right (hr.mono (by decide)) (a_cons (e_var 3) (a_cons (e_var 2) (a_cons (e_int) (a_cons (e_int) (a_nil)))))))) (w_or1 (t_not (t_truth (e_callC c__law_case_right (hr.mono (by decide)) (a_cons (e_tup (a_cons (e_int) (a_cons (e_int) (a_cons (e_int) (a_nil))))) (a_cons (e_tup (a_cons (e_tup (a_cons (e_int) (a_cons (e_int) (a_nil)))) (a_cons (e_tup (a_cons (e_int) (a_cons (e_int) (a_nil)))) (a_nil)))) (a_cons (e_int) (a_cons (e_int) (a_nil))))))))))) (ss_one (s_ret (e_bl))) (ss_nil)) (ss_one (s_ret (e_callC c__law_case_right (hr.mono (by decide)) (a_cons (e_tup (a_cons (e_int) (a_cons (e_int) (a_cons (e_int) (a_nil))))) (a_cons (e_tup (a_nil)) (a_cons (e_int) (a_cons (e_int) (a_nil))))))))))))))))
theorem sc__law_right : FnScope ["_law_tin", "_law_turn", "_law_kin_here", "_law_lots_here", "_law_mate", "_law_first_here", "_law_many"] ["_law_tin"] (defScope st__law_right) := ⟨rfl, rfl, rfl, by decide +kernel, rfl, by decide +kernel, by decide +kernel⟩
theorem ok__law_right {f : Addr} {fd : FuncData} (F : FnP K "_law_right" st__law_right f fd) (hm : mg "_law_right" = some (.ref f)) (B : Blt mg) (c__law_kin : Cal P w K mg base "_law_kin" 2 3 f__law_kin) (c__law_lots : Cal P w K mg base "_law_lots" 2 1 f__law_lots) (c__law_first : Cal P w K mg base "_law_first" 3 3 f__law_first) (c__law_take : Cal P w K mg base "_law_take" 1 2 f__law_take) (c__law_lots_right : Cal P w K mg base "_law_lots_right" 11 2 (gZ false lots12)) (c__law_case_right : Cal P w K mg base "_law_case_right" 12 4 (gZ false case12)) : Cal P w K mg base "_law_right" 13 1 f__law_right :=
  have nd := sc__law_right.nd
  cal_of (ps := ["_law_tin"]) F sc__law_right rfl hm (fun _ _ _ _ _ _ us hl => match us, hl with | [_], _ => rfl) fun cdv A outer s H E hr =>
    ss_cons (s_for PassesOwn.never rfl (i_rng1 B.range (a_cons (e_int) (a_nil))) (g_name nd) (ss_cons (s_par3 rfl nd (a_cons (e_callC c__law_kin (hr.mono (by decide)) (a_cons (e_var 0) (a_cons (e_int) (a_cons (e_int) (a_nil))))) (a_cons (e_callC c__law_lots (hr.mono (by decide)) (a_cons (e_var 0) (a_nil))) (a_cons (e_callC c__law_lots (hr.mono (by decide)) (a_cons (e_var 0) (a_nil))) (a_nil))))) (ss_cons (s_par rfl nd (a_cons (e_callC c__law_first (hr.mono (by decide)) (a_cons (e_var 0) (a_cons (e_var 2) (a_cons (e_int) (a_nil))))) (a_cons (e_callC c__law_take (hr.mono (by decide)) (a_cons (e_var 0) (a_cons (e_int) (a_nil)))) (a_nil)))) (ss_one (s_if (PW.pt (w_or (t_not (t_truth (e_callC c__law_lots_right (hr.mono (by decide)) (a_cons (e_var 3) (a_cons (e_var 4) (a_nil)))))) (w_or1 (t_not (t_truth (e_callC c__law_case_right (hr.mono (by decide)) (a_cons (e_var 2) (a_cons (e_var 3) (a_cons (e_var 5) (a_cons (e_var 6) (a_nil))))))))))) (ss_one (s_ret (e_bl))) (ss_nil)))))) (ss_one (s_ret (e_bl)))
theorem sc_law : FnScope ["_law_script", "_law_cells_here", "_law_k"] ["_law_script"] (defScope st_law) := ⟨rfl, rfl, rfl, by decide +kernel, rfl, by decide +kernel, by decide +kernel⟩
theorem ok_law {f : Addr} {fd : FuncData} (F : FnP K "law" st_law f fd) (B : Blt mg) (c__law_cells : Cal P w K mg base "_law_cells" 1 2 f__law_cells) (c__law_hand_right : Cal P w K mg base "_law_hand_right" 13 0 (gZ false handF)) (c__law_right : Cal P w K mg base "_law_right" 13 1 f__law_right) (c__law_box : Cal P w K mg base "_law_box" 1 2 f__law_box) : FnOk P w K mg base CX0 14 f fd ["_law_script"] (sp0 K 1 f_law) :=
  have nd := sc_law.nd
  fn0 F sc_law rfl fun cdv A outer s H E hr =>
    ss_cons (s_if (t_not (t_truth (e_callC0 c__law_hand_right (hr.mono (by decide))))) (ss_one (s_ret (e_bl))) (ss_nil)) (ss_cons (s_set nd (e_callC c__law_cells (hr.mono (by decide)) (a_cons (e_var 0) (a_cons (e_int) (a_nil))))) (ss_one (s_ret (e_all B.all (a_cons (e_lc (own := [("_law_k", 2)]) rfl nd (i_rng1 B.range (a_cons (e_len B.len (a_cons (e_var 1) (a_nil))) (a_nil))) (by exact blkOk_by (N := ["_law_script", "_law_cells_here", "_law_k"]) (sc := defScope st_law) (by decide +kernel)) (fun _ _ _ _ _ => pg_name (i := 2) nd rfl (by first | exact Or.inl rfl | exact Or.inr rfl)) (fun _ _ _ _ _ => ts_nil) (fun _ _ _ _ _ => e_callC c__law_right (hr.mono (by decide)) (a_cons (e_callC c__law_box (hr.mono (by decide)) (a_cons (e_var 1) (a_cons (e_var 2) (a_nil)))) (a_nil))) (ct_name (by decide))) (a_nil))))))
end GB
set_option Elab.async false
set_option exponentiation.threshold 20000
set_option linter.all false
set_option maxRecDepth 100000
set_option maxHeartbeats 4000000
namespace GB
open PySem PySem.Spec PyProof.Rows L2
end GB
set_option Elab.async false
set_option linter.all false
set_option maxRecDepth 100000
set_option maxHeartbeats 4000000
namespace GB
open PySem PySem.Spec PyProof.Rows L2
def dd_is_number : He.DefD := ⟨("is_number", none), "is_number", "is_number", defArgs st_is_number, defBody st_is_number, defScope st_is_number, [], []⟩
def dd_tupled : He.DefD := ⟨("tupled", none), "tupled", "tupled", defArgs st_tupled, defBody st_tupled, defScope st_tupled, [], []⟩
def dd_set_of : He.DefD := ⟨("set_of", none), "set_of", "set_of", defArgs st_set_of, defBody st_set_of, defScope st_set_of, [], []⟩
def dd_next_size : He.DefD := ⟨("next_size", none), "next_size", "next_size", defArgs st_next_size, defBody st_next_size, defScope st_next_size, [], []⟩
def dd_is_start : He.DefD := ⟨("is_start", none), "is_start", "is_start", defArgs st_is_start, defBody st_is_start, defScope st_is_start, [], []⟩
def dd_check_start : He.DefD := ⟨("check_start", none), "check_start", "check_start", defArgs st_check_start, defBody st_check_start, defScope st_check_start, [], []⟩
def dd_sizes : He.DefD := ⟨("sizes", none), "sizes", "sizes", defArgs st_sizes, defBody st_sizes, defScope st_sizes, [], []⟩
def dd_is_stays : He.DefD := ⟨("is_stays", none), "is_stays", "is_stays", defArgs st_is_stays, defBody st_is_stays, defScope st_is_stays, [], []⟩
def dd_end_of : He.DefD := ⟨("end_of", none), "end_of", "end_of", defArgs st_end_of, defBody st_end_of, defScope st_end_of, [], []⟩
def dd_holes : He.DefD := ⟨("holes", none), "holes", "holes", defArgs st_holes, defBody st_holes, defScope st_holes, [], []⟩
def dd_how_many_places : He.DefD := ⟨("how_many_places", none), "how_many_places", "how_many_places", defArgs st_how_many_places, defBody st_how_many_places, defScope st_how_many_places, [], []⟩
def dd_plain_stays : He.DefD := ⟨("plain_stays", none), "plain_stays", "plain_stays", defArgs st_plain_stays, defBody st_plain_stays, defScope st_plain_stays, [], []⟩
def dd_both_stays : He.DefD := ⟨("both_stays", none), "both_stays", "both_stays", defArgs st_both_stays, defBody st_both_stays, defScope st_both_stays, [], []⟩
def dd_lowest_place : He.DefD := ⟨("lowest_place", none), "lowest_place", "lowest_place", defArgs st_lowest_place, defBody st_lowest_place, defScope st_lowest_place, [], []⟩
def dd_lowest_beside : He.DefD := ⟨("lowest_beside", none), "lowest_beside", "lowest_beside", defArgs st_lowest_beside, defBody st_lowest_beside, defScope st_lowest_beside, [], []⟩
def dd_stays_run : He.DefD := ⟨("stays_run", none), "stays_run", "stays_run", defArgs st_stays_run, defBody st_stays_run, defScope st_stays_run, [], []⟩
def dd_ahead_at : He.DefD := ⟨("ahead_at", none), "ahead_at", "ahead_at", defArgs st_ahead_at, defBody st_ahead_at, defScope st_ahead_at, [], []⟩
def dd_rows_ahead : He.DefD := ⟨("rows_ahead", none), "rows_ahead", "rows_ahead", defArgs st_rows_ahead, defBody st_rows_ahead, defScope st_rows_ahead, [], []⟩
def dd_last_ahead : He.DefD := ⟨("last_ahead", none), "last_ahead", "last_ahead", defArgs st_last_ahead, defBody st_last_ahead, defScope st_last_ahead, [], []⟩
def dd_goes_free : He.DefD := ⟨("goes_free", none), "goes_free", "goes_free", defArgs st_goes_free, defBody st_goes_free, defScope st_goes_free, [], []⟩
def dd_holes_used : He.DefD := ⟨("holes_used", none), "holes_used", "holes_used", defArgs st_holes_used, defBody st_holes_used, defScope st_holes_used, [], []⟩
def dd_blocks_of : He.DefD := ⟨("blocks_of", none), "blocks_of", "blocks_of", defArgs st_blocks_of, defBody st_blocks_of, defScope st_blocks_of, [], []⟩
def dd_places : He.DefD := ⟨("places", none), "places", "places", defArgs st_places, defBody st_places, defScope st_places, [], []⟩
def dd__law_box : He.DefD := ⟨("_law_box", none), "_law_box", "_law_box", defArgs st__law_box, defBody st__law_box, defScope st__law_box, [], []⟩
def dd__law_take : He.DefD := ⟨("_law_take", none), "_law_take", "_law_take", defArgs st__law_take, defBody st__law_take, defScope st__law_take, [], []⟩
def dd__law_cells : He.DefD := ⟨("_law_cells", none), "_law_cells", "_law_cells", defArgs st__law_cells, defBody st__law_cells, defScope st__law_cells, [], []⟩
def dd__law_same : He.DefD := ⟨("_law_same", none), "_law_same", "_law_same", defArgs st__law_same, defBody st__law_same, defScope st__law_same, [], []⟩
def dd__law_kin : He.DefD := ⟨("_law_kin", none), "_law_kin", "_law_kin", defArgs st__law_kin, defBody st__law_kin, defScope st__law_kin, [], []⟩
def dd__law_next : He.DefD := ⟨("_law_next", none), "_law_next", "_law_next", defArgs st__law_next, defBody st__law_next, defScope st__law_next, [], []⟩
def dd__law_least : He.DefD := ⟨("_law_least", none), "_law_least", "_law_least", defArgs st__law_least, defBody st__law_least, defScope st__law_least, [], []⟩
def dd__law_first : He.DefD := ⟨("_law_first", none), "_law_first", "_law_first", defArgs st__law_first, defBody st__law_first, defScope st__law_first, [], []⟩
def dd__law_taken : He.DefD := ⟨("_law_taken", none), "_law_taken", "_law_taken", defArgs st__law_taken, defBody st__law_taken, defScope st__law_taken, [], []⟩
def dd__law_pairs : He.DefD := ⟨("_law_pairs", none), "_law_pairs", "_law_pairs", defArgs st__law_pairs, defBody st__law_pairs, defScope st__law_pairs, [], []⟩
def dd__law_lowest : He.DefD := ⟨("_law_lowest", none), "_law_lowest", "_law_lowest", defArgs st__law_lowest, defBody st__law_lowest, defScope st__law_lowest, [], []⟩
def dd__law_among : He.DefD := ⟨("_law_among", none), "_law_among", "_law_among", defArgs st__law_among, defBody st__law_among, defScope st__law_among, [], []⟩
def dd__law_lots : He.DefD := ⟨("_law_lots", none), "_law_lots", "_law_lots", defArgs st__law_lots, defBody st__law_lots, defScope st__law_lots, [], []⟩
def dd__law_lots_right : He.DefD := ⟨("_law_lots_right", none), "_law_lots_right", "_law_lots_right", defArgs st__law_lots_right, defBody st__law_lots_right, defScope st__law_lots_right, [], []⟩
def dd__law_case_right : He.DefD := ⟨("_law_case_right", none), "_law_case_right", "_law_case_right", defArgs st__law_case_right, defBody st__law_case_right, defScope st__law_case_right, [], []⟩
def dd__law_hand_right : He.DefD := ⟨("_law_hand_right", none), "_law_hand_right", "_law_hand_right", defArgs st__law_hand_right, defBody st__law_hand_right, defScope st__law_hand_right, [], []⟩
def dd__law_right : He.DefD := ⟨("_law_right", none), "_law_right", "_law_right", defArgs st__law_right, defBody st__law_right, defScope st__law_right, [], []⟩
def dd_law : He.DefD := ⟨("law", none), "law", "law", defArgs st_law, defBody st_law, defScope st_law, [], []⟩
def fnL : List He.DefD := [dd_is_number, dd_tupled, dd_set_of, dd_next_size, dd_is_start, dd_check_start, dd_sizes, dd_is_stays, dd_end_of, dd_holes, dd_how_many_places, dd_plain_stays, dd_both_stays, dd_lowest_place, dd_lowest_beside, dd_stays_run, dd_ahead_at, dd_rows_ahead, dd_last_ahead, dd_goes_free, dd_holes_used, dd_blocks_of, dd_places, dd__law_box, dd__law_take, dd__law_cells, dd__law_same, dd__law_kin, dd__law_next, dd__law_least, dd__law_first, dd__law_taken, dd__law_pairs, dd__law_lowest, dd__law_among, dd__law_lots, dd__law_lots_right, dd__law_case_right, dd__law_hand_right, dd__law_right, dd_law]
def faL : List He.Fa := [.glo "is_number", .glo "tupled", .glo "set_of", .glo "next_size", .glo "is_start", .glo "check_start", .glo "sizes", .glo "is_stays", .glo "end_of", .glo "holes", .glo "how_many_places", .glo "plain_stays", .glo "both_stays", .glo "lowest_place", .glo "lowest_beside", .glo "stays_run", .glo "ahead_at", .glo "rows_ahead", .glo "last_ahead", .glo "goes_free", .glo "holes_used", .glo "blocks_of", .glo "places", .glo "_law_box", .glo "_law_take", .glo "_law_cells", .glo "_law_same", .glo "_law_kin", .glo "_law_next", .glo "_law_least"] ++ ([.glo "_law_first", .glo "_law_taken", .glo "_law_pairs", .glo "_law_lowest", .glo "_law_among", .glo "_law_lots", .glo "_law_lots_right", .glo "_law_case_right", .glo "_law_hand_right", .glo "_law_right", .glo "law", .free "abs", .free "all", .free "any", .free "bool", .free "dict", .free "enumerate", .free "int", .free "isinstance", .free "len", .free "list", .free "max", .free "min", .free "range", .free "set", .free "sorted", .free "str", .free "sum", .free "tuple", .free "zip"] : List He.Fa) ++ ([.free "ValueError", .free "super"] : List He.Fa)
def loose : List PySem.Str := (["is_number", "tupled", "set_of", "NoStart", "next_size", "is_start", "check_start", "sizes", "is_stays", "end_of", "holes", "how_many_places", "plain_stays", "both_stays", "lowest_place", "lowest_beside", "stays_run", "ahead_at", "rows_ahead", "last_ahead", "goes_free", "holes_used", "blocks_of", "places", "_law_box", "_law_take", "_law_cells", "_law_same", "_law_kin", "_law_next"] : List PySem.Str) ++ (["_law_least", "_law_first", "_law_taken", "_law_pairs", "_law_lowest", "_law_among", "_law_lots", "_law_lots_right", "_law_case_right", "_law_hand_right", "_law_right"] : List PySem.Str)
abbrev Rw : PySem.W.OpenRow := PySem.W.OpenLaw.row PySem.Challenge.rw_growback_k12_whole_cells_that_stay
abbrev hk : PySem.W.Hook := He.hookD 4 faL fnL
def ob (s : PySem.W.SharedT) : He.AlD := He.obsDG 4 faL fnL (HandSHeadRun.getT s)
theorem ob_eq (s : PySem.W.SharedT) : ob s = hk.obs s.abs := He.obsDG_eq (HandSHeadRun.getT_eq s)
theorem run (w : World) : HandSHeadRun.RunEq Rw (PySem.W.view Rw.prog [47]) hk ob 6000 loose w := by
  intro os
  kernel_rfl
theorem facts {P : Program} {w : World} {K : PySem.W.Frag} {h : Heap} {mg : Str → Option Value} {f : Addr} (X : K.In h) (G : h.Ns mainGlobals mg) (hfa : mg ("law" : Str) = some (.ref f)) (c : He.SaysD faL fnL K) :
    ∃ fd : FuncData, (∀ (s : Shared) (v : Value), BindsTo s fd ⟨[v], []⟩ [("_law_script", v)]) ∧ ∀ base : Heap, K.In base → base.Ns mainGlobals mg → FnOk P w K mg base CX0 14 f fd ["_law_script"] (sp0 K 1 f_law) := by
  obtain ⟨fd_is_number, F_is_number⟩ := c.def_ 0 (d := dd_is_number) rfl
  obtain ⟨fd_tupled, F_tupled⟩ := c.def_ 1 (d := dd_tupled) rfl
  obtain ⟨fd_set_of, F_set_of⟩ := c.def_ 2 (d := dd_set_of) rfl
  obtain ⟨fd_next_size, F_next_size⟩ := c.def_ 3 (d := dd_next_size) rfl
  obtain ⟨fd_is_start, F_is_start⟩ := c.def_ 4 (d := dd_is_start) rfl
  obtain ⟨fd_check_start, F_check_start⟩ := c.def_ 5 (d := dd_check_start) rfl
  obtain ⟨fd_sizes, F_sizes⟩ := c.def_ 6 (d := dd_sizes) rfl
  obtain ⟨fd_is_stays, F_is_stays⟩ := c.def_ 7 (d := dd_is_stays) rfl
  obtain ⟨fd_end_of, F_end_of⟩ := c.def_ 8 (d := dd_end_of) rfl
  obtain ⟨fd_holes, F_holes⟩ := c.def_ 9 (d := dd_holes) rfl
  obtain ⟨fd_how_many_places, F_how_many_places⟩ := c.def_ 10 (d := dd_how_many_places) rfl
  obtain ⟨fd_plain_stays, F_plain_stays⟩ := c.def_ 11 (d := dd_plain_stays) rfl
  obtain ⟨fd_both_stays, F_both_stays⟩ := c.def_ 12 (d := dd_both_stays) rfl
  obtain ⟨fd_lowest_place, F_lowest_place⟩ := c.def_ 13 (d := dd_lowest_place) rfl
  obtain ⟨fd_lowest_beside, F_lowest_beside⟩ := c.def_ 14 (d := dd_lowest_beside) rfl
  obtain ⟨fd_stays_run, F_stays_run⟩ := c.def_ 15 (d := dd_stays_run) rfl
  obtain ⟨fd_ahead_at, F_ahead_at⟩ := c.def_ 16 (d := dd_ahead_at) rfl
  obtain ⟨fd_rows_ahead, F_rows_ahead⟩ := c.def_ 17 (d := dd_rows_ahead) rfl
  obtain ⟨fd_last_ahead, F_last_ahead⟩ := c.def_ 18 (d := dd_last_ahead) rfl
  obtain ⟨fd_goes_free, F_goes_free⟩ := c.def_ 19 (d := dd_goes_free) rfl
  obtain ⟨fd_holes_used, F_holes_used⟩ := c.def_ 20 (d := dd_holes_used) rfl
  obtain ⟨fd_blocks_of, F_blocks_of⟩ := c.def_ 21 (d := dd_blocks_of) rfl
  obtain ⟨fd_places, F_places⟩ := c.def_ 22 (d := dd_places) rfl
  obtain ⟨fd__law_box, F__law_box⟩ := c.def_ 23 (d := dd__law_box) rfl
  obtain ⟨fd__law_take, F__law_take⟩ := c.def_ 24 (d := dd__law_take) rfl
  obtain ⟨fd__law_cells, F__law_cells⟩ := c.def_ 25 (d := dd__law_cells) rfl
  obtain ⟨fd__law_same, F__law_same⟩ := c.def_ 26 (d := dd__law_same) rfl
  obtain ⟨fd__law_kin, F__law_kin⟩ := c.def_ 27 (d := dd__law_kin) rfl
  obtain ⟨fd__law_next, F__law_next⟩ := c.def_ 28 (d := dd__law_next) rfl
  obtain ⟨fd__law_least, F__law_least⟩ := c.def_ 29 (d := dd__law_least) rfl
  obtain ⟨fd__law_first, F__law_first⟩ := c.def_ 30 (d := dd__law_first) rfl
  obtain ⟨fd__law_taken, F__law_taken⟩ := c.def_ 31 (d := dd__law_taken) rfl
  obtain ⟨fd__law_pairs, F__law_pairs⟩ := c.def_ 32 (d := dd__law_pairs) rfl
  obtain ⟨fd__law_lowest, F__law_lowest⟩ := c.def_ 33 (d := dd__law_lowest) rfl
  obtain ⟨fd__law_among, F__law_among⟩ := c.def_ 34 (d := dd__law_among) rfl
  obtain ⟨fd__law_lots, F__law_lots⟩ := c.def_ 35 (d := dd__law_lots) rfl
  obtain ⟨fd__law_lots_right, F__law_lots_right⟩ := c.def_ 36 (d := dd__law_lots_right) rfl
  obtain ⟨fd__law_case_right, F__law_case_right⟩ := c.def_ 37 (d := dd__law_case_right) rfl
  obtain ⟨fd__law_hand_right, F__law_hand_right⟩ := c.def_ 38 (d := dd__law_hand_right) rfl
  obtain ⟨fd__law_right, F__law_right⟩ := c.def_ 39 (d := dd__law_right) rfl
  obtain ⟨fd_law, F_law⟩ := c.def_ 40 (d := dd_law) rfl
  have m_is_number := He.glo_ok X G (c.fact 0 (f := .glo "is_number") rfl)
  have m_tupled := He.glo_ok X G (c.fact 1 (f := .glo "tupled") rfl)
  have m_set_of := He.glo_ok X G (c.fact 2 (f := .glo "set_of") rfl)
  have m_next_size := He.glo_ok X G (c.fact 3 (f := .glo "next_size") rfl)
  have m_is_start := He.glo_ok X G (c.fact 4 (f := .glo "is_start") rfl)
  have m_check_start := He.glo_ok X G (c.fact 5 (f := .glo "check_start") rfl)
  have m_sizes := He.glo_ok X G (c.fact 6 (f := .glo "sizes") rfl)
  have m_is_stays := He.glo_ok X G (c.fact 7 (f := .glo "is_stays") rfl)
  have m_end_of := He.glo_ok X G (c.fact 8 (f := .glo "end_of") rfl)
  have m_holes := He.glo_ok X G (c.fact 9 (f := .glo "holes") rfl)
  have m_how_many_places := He.glo_ok X G (c.fact 10 (f := .glo "how_many_places") rfl)
  have m_plain_stays := He.glo_ok X G (c.fact 11 (f := .glo "plain_stays") rfl)
  have m_both_stays := He.glo_ok X G (c.fact 12 (f := .glo "both_stays") rfl)
  have m_lowest_place := He.glo_ok X G (c.fact 13 (f := .glo "lowest_place") rfl)
  have m_lowest_beside := He.glo_ok X G (c.fact 14 (f := .glo "lowest_beside") rfl)
  have m_stays_run := He.glo_ok X G (c.fact 15 (f := .glo "stays_run") rfl)
  have m_ahead_at := He.glo_ok X G (c.fact 16 (f := .glo "ahead_at") rfl)
  have m_rows_ahead := He.glo_ok X G (c.fact 17 (f := .glo "rows_ahead") rfl)
  have m_last_ahead := He.glo_ok X G (c.fact 18 (f := .glo "last_ahead") rfl)
  have m_goes_free := He.glo_ok X G (c.fact 19 (f := .glo "goes_free") rfl)
  have m_holes_used := He.glo_ok X G (c.fact 20 (f := .glo "holes_used") rfl)
  have m_blocks_of := He.glo_ok X G (c.fact 21 (f := .glo "blocks_of") rfl)
  have m_places := He.glo_ok X G (c.fact 22 (f := .glo "places") rfl)
  have m__law_box := He.glo_ok X G (c.fact 23 (f := .glo "_law_box") rfl)
  have m__law_take := He.glo_ok X G (c.fact 24 (f := .glo "_law_take") rfl)
  have m__law_cells := He.glo_ok X G (c.fact 25 (f := .glo "_law_cells") rfl)
  have m__law_same := He.glo_ok X G (c.fact 26 (f := .glo "_law_same") rfl)
  have m__law_kin := He.glo_ok X G (c.fact 27 (f := .glo "_law_kin") rfl)
  have m__law_next := He.glo_ok X G (c.fact 28 (f := .glo "_law_next") rfl)
  have m__law_least := He.glo_ok X G (c.fact 29 (f := .glo "_law_least") rfl)
  have m__law_first := He.glo_ok X G (c.fact 30 (f := .glo "_law_first") rfl)
  have m__law_taken := He.glo_ok X G (c.fact 31 (f := .glo "_law_taken") rfl)
  have m__law_pairs := He.glo_ok X G (c.fact 32 (f := .glo "_law_pairs") rfl)
  have m__law_lowest := He.glo_ok X G (c.fact 33 (f := .glo "_law_lowest") rfl)
  have m__law_among := He.glo_ok X G (c.fact 34 (f := .glo "_law_among") rfl)
  have m__law_lots := He.glo_ok X G (c.fact 35 (f := .glo "_law_lots") rfl)
  have m__law_lots_right := He.glo_ok X G (c.fact 36 (f := .glo "_law_lots_right") rfl)
  have m__law_case_right := He.glo_ok X G (c.fact 37 (f := .glo "_law_case_right") rfl)
  have m__law_hand_right := He.glo_ok X G (c.fact 38 (f := .glo "_law_hand_right") rfl)
  have m__law_right := He.glo_ok X G (c.fact 39 (f := .glo "_law_right") rfl)
  have m_law := He.glo_ok X G (c.fact 40 (f := .glo "law") rfl)
  have B : Blt mg := ⟨He.free_ok X G (c.fact 41 (f := .free "abs") rfl), He.free_ok X G (c.fact 42 (f := .free "all") rfl), He.free_ok X G (c.fact 43 (f := .free "any") rfl), He.free_ok X G (c.fact 44 (f := .free "bool") rfl), He.free_ok X G (c.fact 45 (f := .free "dict") rfl), He.free_ok X G (c.fact 46 (f := .free "enumerate") rfl), He.free_ok X G (c.fact 47 (f := .free "int") rfl), He.free_ok X G (c.fact 48 (f := .free "isinstance") rfl), He.free_ok X G (c.fact 49 (f := .free "len") rfl), He.free_ok X G (c.fact 50 (f := .free "list") rfl), He.free_ok X G (c.fact 51 (f := .free "max") rfl), He.free_ok X G (c.fact 52 (f := .free "min") rfl), He.free_ok X G (c.fact 53 (f := .free "range") rfl), He.free_ok X G (c.fact 54 (f := .free "set") rfl), He.free_ok X G (c.fact 55 (f := .free "sorted") rfl), He.free_ok X G (c.fact 56 (f := .free "str") rfl), He.free_ok X G (c.fact 57 (f := .free "sum") rfl), He.free_ok X G (c.fact 58 (f := .free "tuple") rfl), He.free_ok X G (c.fact 59 (f := .free "zip") rfl), He.free_ok X G (c.fact 60 (f := .free "ValueError") rfl), He.free_ok X G (c.fact 61 (f := .free "super") rfl)⟩
  have e := hfa.symm.trans m_law
  cases e
  have b := FunD.bindsA (ps := ["_law_script"]) F_law fun _ _ _ _ _ _ us hl => match us, hl with | [_], _ => rfl
  refine ⟨fd_law, fun s v => b s [v] rfl, fun base _ _ => ?_⟩
  have fin : FnOk P w K mg base CX0 14 (He.ga K "law") fd_law ["_law_script"] (sp0 K 1 f_law) := by
    have c_is_number := ok_is_number (P := P) (w := w) (base := base) F_is_number m_is_number B
    have c_tupled := ok_tupled (P := P) (w := w) (base := base) F_tupled m_tupled B
    have c_set_of := ok_set_of (P := P) (w := w) (base := base) F_set_of m_set_of B
    have c_next_size := ok_next_size (P := P) (w := w) (base := base) F_next_size m_next_size B
    have c_is_start := ok_is_start (P := P) (w := w) (base := base) F_is_start m_is_start B c_is_number c_next_size
    have c_check_start := ok_check_start (P := P) (w := w) (base := base) F_check_start m_check_start B c_is_start
    have c_sizes := ok_sizes (P := P) (w := w) (base := base) F_sizes m_sizes B c_check_start c_next_size
    have c_sizes := (c_sizes).toZ false (by3 sizesV) sizes_up
    have c_is_stays := ok_is_stays (P := P) (w := w) (base := base) F_is_stays m_is_stays B c_is_number
    have c_end_of := ok_end_of (P := P) (w := w) (base := base) F_end_of m_end_of B
    have c_holes := ok_holes (P := P) (w := w) (base := base) F_holes m_holes B
    have c_holes := (c_holes).toZ false holesS holes_up
    have c_how_many_places := ok_how_many_places (P := P) (w := w) (base := base) F_how_many_places m_how_many_places B c_holes
    have c_plain_stays := ok_plain_stays (P := P) (w := w) (base := base) F_plain_stays m_plain_stays B c_tupled
    have c_plain_stays := (c_plain_stays).toZ false plainS plain_up
    have c_both_stays := ok_both_stays (P := P) (w := w) (base := base) F_both_stays m_both_stays B c_plain_stays c_tupled
    have c_lowest_place := ok_lowest_place (P := P) (w := w) (base := base) F_lowest_place m_lowest_place B
    have c_lowest_beside := ok_lowest_beside (P := P) (w := w) (base := base) F_lowest_beside m_lowest_beside B c_lowest_place c_tupled
    have c_stays_run := ok_stays_run (P := P) (w := w) (base := base) F_stays_run m_stays_run B c_sizes c_tupled c_lowest_place
    have c_stays_run := (c_stays_run).toZ false srunS srun_up
    have c_ahead_at := ok_ahead_at (P := P) (w := w) (base := base) F_ahead_at m_ahead_at B c_end_of c_stays_run
    have c_rows_ahead := ok_rows_ahead (P := P) (w := w) (base := base) F_rows_ahead m_rows_ahead B c_check_start c_tupled c_end_of c_next_size c_lowest_place c_lowest_beside c_holes
    have c_rows_ahead := (c_rows_ahead).toZ true raheadS rahead_up
    have c_last_ahead := ok_last_ahead (P := P) (w := w) (base := base) F_last_ahead m_last_ahead B c_rows_ahead
    have c_goes_free := ok_goes_free (P := P) (w := w) (base := base) F_goes_free m_goes_free B c_rows_ahead c_next_size
    have c_holes_used := ok_holes_used (P := P) (w := w) (base := base) F_holes_used m_holes_used B c_rows_ahead c_set_of c_holes
    have c_holes_used := (c_holes_used).toZ false usedS used_up
    have c_blocks_of := ok_blocks_of (P := P) (w := w) (base := base) F_blocks_of m_blocks_of B c_check_start c_next_size
    have c_blocks_of := (c_blocks_of).toZ false (by3 blocksV) blocks_up
    have c_places := ok_places (P := P) (w := w) (base := base) F_places m_places B c_blocks_of
    have c__law_box := ok__law_box (P := P) (w := w) (base := base) F__law_box m__law_box B
    have c__law_take := ok__law_take (P := P) (w := w) (base := base) F__law_take m__law_take B
    have c__law_cells := ok__law_cells (P := P) (w := w) (base := base) F__law_cells m__law_cells B
    have c__law_same := ok__law_same (P := P) (w := w) (base := base) F__law_same m__law_same B
    have c__law_same := (c__law_same).toZ false sameF same_up
    have c__law_kin := ok__law_kin (P := P) (w := w) (base := base) F__law_kin m__law_kin B c__law_take
    have c__law_next := ok__law_next (P := P) (w := w) (base := base) F__law_next m__law_next B
    have c__law_least := ok__law_least (P := P) (w := w) (base := base) F__law_least m__law_least B c__law_next
    have c__law_first := ok__law_first (P := P) (w := w) (base := base) F__law_first m__law_first B c__law_least c__law_take
    have c__law_taken := ok__law_taken (P := P) (w := w) (base := base) F__law_taken m__law_taken B
    have c__law_pairs := ok__law_pairs (P := P) (w := w) (base := base) F__law_pairs m__law_pairs B
    have c__law_pairs := (c__law_pairs).toZ false pairsS pairs_up
    have c__law_lowest := ok__law_lowest (P := P) (w := w) (base := base) F__law_lowest m__law_lowest B
    have c__law_among := ok__law_among (P := P) (w := w) (base := base) F__law_among m__law_among B c__law_next c__law_lowest
    have c__law_among := (c__law_among).toZ true amongS among_up
    have c__law_lots := ok__law_lots (P := P) (w := w) (base := base) F__law_lots m__law_lots B c__law_take
    have c__law_lots_right := ok__law_lots_right (P := P) (w := w) (base := base) F__law_lots_right m__law_lots_right B c__law_taken c__law_pairs c__law_same c_is_stays c_end_of c_holes c_plain_stays c_both_stays c__law_lowest c_lowest_beside c_how_many_places c_lowest_place
    have c__law_lots_right := (c__law_lots_right).toZ false lots12 lots_up
    have c__law_case_right := ok__law_case_right (P := P) (w := w) (base := base) F__law_case_right m__law_case_right B c__law_among c__law_same c_end_of c_holes c_last_ahead c_goes_free c_holes_used c_stays_run c_ahead_at c_places
    have c__law_case_right := (c__law_case_right).toZ false case12 case_up
    have c__law_hand_right := ok__law_hand_right (P := P) (w := w) (base := base) F__law_hand_right m__law_hand_right B c__law_case_right c_holes c_end_of c_lowest_place c_how_many_places c_both_stays c_stays_run c_goes_free c_last_ahead c_holes_used c__law_same c__law_lots_right
    have c__law_hand_right := (c__law_hand_right).toZ false handF (hand_ok by_hand)
    have c__law_right := ok__law_right (P := P) (w := w) (base := base) F__law_right m__law_right B c__law_kin c__law_lots c__law_first c__law_take c__law_lots_right c__law_case_right
    exact ok_law F_law B c__law_cells c__law_hand_right c__law_right c__law_box
  exact fin
theorem room_ok : Room 14 callerA := ⟨rfl, by decide, by decide⟩
end GB
open PySem PySem.W PySem.Calls PyProof.Rows
set_option maxRecDepth 100000 in
theorem PySem.Challenge.cw_growback_k12_whole_cells_that_stay_holds : PySem.Challenge.rw_growback_k12_whole_cells_that_stay.Holds := by
  w_on; o_law
  refine HandSHeadRun.head_any (r := OpenLaw.row PySem.Challenge.rw_growback_k12_whole_cells_that_stay) (q := view (OpenLaw.row PySem.Challenge.rw_growback_k12_whole_cells_that_stay).prog [47]) (H := GB.hk) (ob := GB.ob) (M := 6000) (loose := GB.loose) (d := HandSHeadRun.topDef (OpenLaw.row PySem.Challenge.rw_growback_k12_whole_cells_that_stay).prog 47) (kwd := []) GB.ob_eq
    (by kernel_rfl) (fun s => by kernel_rfl) GB.run (by kernel_rfl) (by kernel_rfl) (by kernel_rfl) (by rfl) (by first | assumption | decide +kernel) (by decide +kernel) ⟨rfl, rfl, rfl, rfl, rfl, by decide +kernel⟩ ?hw ?hc
  case hw => w_witness2
  case hc =>
    refine GB.law_end (l := PySem.Challenge.rw_growback_k12_whole_cells_that_stay) (n := 63) (k := 14) (x := "_law_script") (f := GB.f_law) rfl (by decide) (by kernel_rfl) GB.room_ok ?F GB.law_true
    intro w mg fa h Y G hmg0
    obtain ⟨K, KX, c⟩ := Y
    have hmg : mg ("law" : PySem.Str) = some (.ref fa) := by
      have e : (HandSHeadRun.topDef (OpenLaw.row PySem.Challenge.rw_growback_k12_whole_cells_that_stay).prog 47).name = ("law" : PySem.Str) := by kernel_rfl
      rw [← e]
      exact hmg0
    obtain ⟨fd, hb, hF⟩ := GB.facts (P := (PySem.Challenge.rw_growback_k12_whole_cells_that_stay).prog) (w := w) KX G hmg c
    exact ⟨K, fd, KX, hb, hF⟩

