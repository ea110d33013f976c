import PyProof.Rows.All
import Wide.All
import OpenK.AllK
import Wide.FinOn
import HandS.EndBits
import HandS.ForMost
import HandS.Walk
import HandS.Wide
import HandS.ForExc
import HandS.SortInts
import HandS.Deep
import HandS.WideBits
import HandS.TupAny
import HandS.IsInst
import HandS.Iter
import HandS.Rev
import HandS.RevTup
import HandS.Conv
import PyProof.ListRange
import HandS.Dict
import HandS.Style
import HandS.TupSets
import HandS.SetFor
import PySem.Challenge.RW_sinceply_k59_whole_papers_never_cross
section T_SimA
set_option Elab.async false
set_option linter.all false
set_option maxRecDepth 100000
/-! SimA: a plain functional reading (closures over PyData) of the hand layer's readings. -/
namespace Sim
open PySem PySem.Spec L2
open PyProof.Rows hiding St

abbrev Dt := PyData

/-! ### what stands for a datum -/
def Fz (K : PySem.W.Frag) (H : Hp) (a : Addr) (xs : List V) : Prop :=
  (∃ o, H a = some (.frz o (.lst xs))) ∨
    ∃ (o : Obj) (its : Array Value) (n : Nat), K.lookup a = some o ∧ o.cls = .type "list" ∧ o.dict = none ∧ o.data = .seq its n ∧ its.size ≤ sizeLine ∧ Vals xs its.toList

mutual
inductive Rp (K : PySem.W.Frag) (F : Addr → Prop) (H : Hp) : V → Dt → Prop
  | non : Rp K F H .non .none
  | bl (b : Bool) : Rp K F H (.bl b) (.bool b)
  | int (i : Int) : Rp K F H (.int i) (.int i)
  | str (x : Str) : Rp K F H (.str x) (.str x)
  | lst {a : Addr} {xs : List V} {ds : List Dt} : H a = some (.lst xs) → F a → RpA K F H xs ds → Rp K F H (.ref a) (.list ds)
  | fz {a : Addr} {xs : List V} {ds : List Dt} : Fz K H a xs → RpA K F H xs ds → Rp K F H (.ref a) (.list ds)
  | tup {a : Addr} {xs : List V} {ds : List Dt} : SqT K H a xs → RpA K F H xs ds → Rp K F H (.ref a) (.tuple ds)
inductive RpA (K : PySem.W.Frag) (F : Addr → Prop) (H : Hp) : List V → List Dt → Prop
  | nil : RpA K F H [] []
  | cons {v : V} {vs : List V} {d : Dt} {ds : List Dt} : Rp K F H v d → RpA K F H vs ds → RpA K F H (v :: vs) (d :: ds)
end

section
variable {K : PySem.W.Frag} {F F' : Addr → Prop} {H H' : Hp} {v : V} {d : Dt} {vs : List V} {ds : List Dt} {a p : Addr} {xs : List V}

theorem Fz.same (e : Same H H') (h : Fz K H a xs) : Fz K H' a xs := by
  rcases h with ⟨o, h⟩ | h
  · exact .inl ⟨o, e _ _ h⟩
  · exact .inr h
theorem Fz.sql (h : Fz K H a xs) : SqL K H a xs := by
  rcases h with ⟨o, h⟩ | h
  · exact .inl (.inr ⟨o, h⟩)
  · exact .inr h
theorem sqt_same (e : Same H H') (h : SqT K H a xs) : SqT K H' a xs := by
  rcases h with (h | ⟨o, h⟩) | h
  · exact .inl (.inl (e _ _ h))
  · exact .inl (.inr ⟨o, e _ _ h⟩)
  · exact .inr h

mutual
theorem Rp.mono (e : Same H H') (f : ∀ a, F a → H a ≠ none → F' a) : ∀ {v : V} {d : Dt}, Rp K F H v d → Rp K F' H' v d
  | _, _, .non => .non
  | _, _, .bl b => .bl b
  | _, _, .int i => .int i
  | _, _, .str x => .str x
  | _, _, .lst h fa r => .lst (e _ _ h) (f _ fa (by rw [h]; exact fun z => nomatch z)) (RpA.mono e f r)
  | _, _, .fz h r => .fz (h.same e) (RpA.mono e f r)
  | _, _, .tup h r => .tup (sqt_same e h) (RpA.mono e f r)
theorem RpA.mono (e : Same H H') (f : ∀ a, F a → H a ≠ none → F' a) : ∀ {vs : List V} {ds : List Dt}, RpA K F H vs ds → RpA K F' H' vs ds
  | _, _, .nil => .nil
  | _, _, .cons h r => .cons (Rp.mono e f h) (RpA.mono e f r)
end
/-- what holds a place of its own (no tuple, not locked) -/
def Mutb (o : HO) : Prop := match o with
  | .lst _ => True
  | .dK _ => True
  | .dT _ => True
  | _ => False
theorem Fz.updM {o o' : HO} (hp : H p = some o) (m : Mutb o) (h : Fz K H a xs) : Fz K (upd H p o') a xs := by
  rcases h with ⟨q, h⟩ | h
  · refine .inl ⟨q, ?_⟩
    rw [upd_ne ?_]
    · exact h
    · intro z
      subst z
      rw [hp] at h
      cases h
      exact m
  · exact .inr h
theorem sqt_updM {o o' : HO} (hp : H p = some o) (m : Mutb o) (h : SqT K H a xs) : SqT K (upd H p o') a xs := by
  rcases h with (h | ⟨q, h⟩) | h
  · refine .inl (.inl ?_)
    rw [upd_ne ?_]
    · exact h
    · intro z
      subst z
      rw [hp] at h
      cases h
      exact m
  · refine .inl (.inr ⟨q, ?_⟩)
    rw [upd_ne ?_]
    · exact h
    · intro z
      subst z
      rw [hp] at h
      cases h
      exact m
  · exact .inr h
mutual
theorem Rp.updM {o o' : HO} (hp : H p = some o) (m : Mutb o) (nf : ∀ a, F a → a ≠ p) : ∀ {v : V} {d : Dt}, Rp K F H v d → Rp K F (upd H p o') v d
  | _, _, .non => .non
  | _, _, .bl b => .bl b
  | _, _, .int i => .int i
  | _, _, .str x => .str x
  | _, _, .lst h fa r => .lst (by rw [upd_ne (nf _ fa)]; exact h) fa (RpA.updM hp m nf r)
  | _, _, .fz h r => .fz (h.updM hp m) (RpA.updM hp m nf r)
  | _, _, .tup h r => .tup (sqt_updM hp m h) (RpA.updM hp m nf r)
theorem RpA.updM {o o' : HO} (hp : H p = some o) (m : Mutb o) (nf : ∀ a, F a → a ≠ p) : ∀ {vs : List V} {ds : List Dt}, RpA K F H vs ds → RpA K F (upd H p o') vs ds
  | _, _, .nil => .nil
  | _, _, .cons h r => .cons (Rp.updM hp m nf h) (RpA.updM hp m nf r)
end
mutual
theorem Rp.dp : ∀ {v : V} {d : Dt}, Rp K F H v d → Dp K H v d
  | _, _, .non => .non
  | _, _, .bl b => .bl b
  | _, _, .int i => .int i
  | _, _, .str x => .str x
  | _, _, .lst h _ r => .lst (.inl (.inl h)) (RpA.dp r)
  | _, _, .fz h r => .lst h.sql (RpA.dp r)
  | _, _, .tup h r => .tup h (RpA.dp r)
theorem RpA.dp : ∀ {vs : List V} {ds : List Dt}, RpA K F H vs ds → DpAll K H vs ds
  | _, _, .nil => .nil
  | _, _, .cons h r => .cons (Rp.dp h) (RpA.dp r)
end
theorem RpA.length : ∀ {vs : List V} {ds : List Dt}, RpA K F H vs ds → vs.length = ds.length
  | _, _, .nil => rfl
  | _, _, .cons _ r => by rw [List.length_cons, List.length_cons, r.length]
theorem RpA.get : ∀ {vs : List V} {ds : List Dt} {i : Nat} {v : V}, RpA K F H vs ds → vs[i]? = some v → ∃ d, ds[i]? = some d ∧ Rp K F H v d
  | _, _, _, _, .nil, e => by simp at e
  | _, _, 0, _, .cons h _, e => by simp at e; subst e; exact ⟨_, rfl, h⟩
  | _, _, i + 1, v, .cons _ r, e => by
    obtain ⟨d, h1, h2⟩ := RpA.get (i := i) (v := v) r (by simpa using e)
    exact ⟨d, by simpa using h1, h2⟩
theorem RpA.get' : ∀ {vs : List V} {ds : List Dt} {i : Nat} {d : Dt}, RpA K F H vs ds → ds[i]? = some d → ∃ v, vs[i]? = some v ∧ Rp K F H v d
  | _, _, _, _, .nil, e => by simp at e
  | _, _, 0, _, .cons h _, e => by simp at e; subst e; exact ⟨_, rfl, h⟩
  | _, _, i + 1, d, .cons _ r, e => by
    obtain ⟨v, h1, h2⟩ := RpA.get' (i := i) (d := d) r (by simpa using e)
    exact ⟨v, by simpa using h1, h2⟩
theorem RpA.append : ∀ {xs ys : List V} {ds es : List Dt}, RpA K F H xs ds → RpA K F H ys es → RpA K F H (xs ++ ys) (ds ++ es)
  | _, _, _, _, .nil, s => s
  | _, _, _, _, .cons h r, s => .cons h (RpA.append r s)
theorem RpA.take : ∀ {xs : List V} {ds : List Dt} (n : Nat), RpA K F H xs ds → RpA K F H (xs.take n) (ds.take n)
  | _, _, 0, _ => .nil
  | _, _, _ + 1, .nil => .nil
  | _, _, n + 1, .cons h r => .cons h (RpA.take n r)
theorem RpA.drop : ∀ {xs : List V} {ds : List Dt} (n : Nat), RpA K F H xs ds → RpA K F H (xs.drop n) (ds.drop n)
  | _, _, 0, r => r
  | _, _, _ + 1, .nil => .nil
  | _, _, n + 1, .cons _ r => RpA.drop n r
theorem RpA.set {x : V} {d : Dt} (h : Rp K F H x d) : ∀ {xs : List V} {ds : List Dt} (i : Nat), RpA K F H xs ds → RpA K F H (xs.set i x) (ds.set i d)
  | _, _, _, .nil => .nil
  | _, _, 0, .cons _ r => .cons h r
  | _, _, i + 1, .cons q r => .cons q (RpA.set h i r)
theorem RpA.reverse {xs : List V} {ds : List Dt} (h : RpA K F H xs ds) : RpA K F H xs.reverse ds.reverse := by
  induction xs generalizing ds with
  | nil => cases h; exact .nil
  | cons x xs ih =>
    cases h with
    | cons q r =>
      rw [List.reverse_cons, List.reverse_cons]
      exact (ih r).append (.cons q .nil)
theorem RpA.flat {xs : List V} {ds : List Dt} (h : RpA K F H xs ds) : ∀ k : Nat, RpA K F H (List.replicate k xs).flatten (List.replicate k ds).flatten
  | 0 => .nil
  | k + 1 => by
    rw [List.replicate_succ, List.replicate_succ, List.flatten_cons, List.flatten_cons]
    exact h.append (RpA.flat h k)
mutual
def pure1 : Dt → Bool
  | .list _ => false
  | .dict _ => false
  | .tuple xs => pureA xs
  | _ => true
def pureA : List Dt → Bool
  | [] => true
  | x :: xs => pure1 x && pureA xs
end
mutual
theorem Rp.pure : ∀ {v : V} {d : Dt}, Rp K F H v d → pure1 d = true → Rp K F' H v d
  | _, _, .non, _ => .non
  | _, _, .bl b, _ => .bl b
  | _, _, .int i, _ => .int i
  | _, _, .str x, _ => .str x
  | _, _, .lst h _ r, e => by rw [pure1] at e; cases e
  | _, _, .fz h r, e => by rw [pure1] at e; cases e
  | _, _, .tup h r, e => .tup h (RpA.pure r (by rw [pure1] at e; exact e))
theorem RpA.pure : ∀ {vs : List V} {ds : List Dt}, RpA K F H vs ds → pureA ds = true → RpA K F' H vs ds
  | _, _, .nil, _ => .nil
  | _, _, .cons h r, e => by
    rw [pureA, Bool.and_eq_true] at e
    exact .cons (Rp.pure h e.1) (RpA.pure r e.2)
end
theorem Rp.weak (f : ∀ a, F a → F' a) (h : Rp K F H v d) : Rp K F' H v d := h.mono (Same.refl H) fun a fa _ => f a fa
theorem RpA.weak (f : ∀ a, F a → F' a) (h : RpA K F H vs ds) : RpA K F' H vs ds := h.mono (Same.refl H) fun a fa _ => f a fa
theorem Rp.same (e : Same H H') (h : Rp K F H v d) : Rp K F H' v d := h.mono e fun a fa _ => fa
theorem RpA.same (e : Same H H') (h : RpA K F H vs ds) : RpA K F H' vs ds := h.mono e fun a fa _ => fa
/-- one thing stands for one datum -/
theorem Fz.inj_lst {ys : List V} (h : Fz K H a xs) (h' : H a = some (.lst ys)) : (∃ (o : Obj) (its : Array Value) (n : Nat), K.lookup a = some o ∧ o.cls = .type "list" ∧ o.dict = none ∧ o.data = .seq its n ∧ its.size ≤ sizeLine ∧ Vals xs its.toList) := by
  rcases h with ⟨o, h⟩ | h
  · rw [h] at h'; cases h'
  · exact h
end

/-! ### outcomes -/
structure Exn where
  cls : Str
  arg : Option Int
inductive O (α : Type) where
  | bad | ok (a : α) | ex (e : Exn)
def bnd {α β : Type} (x : O α) (f : α → O β) : O β := match x with
  | .bad => .bad
  | .ok a => f a
  | .ex e => .ex e
@[simp] theorem bnd_ok {α β : Type} (a : α) (f : α → O β) : bnd (.ok a) f = f a := rfl
@[simp] theorem bnd_bad {α β : Type} (f : α → O β) : bnd .bad f = .bad := rfl
@[simp] theorem bnd_ex {α β : Type} (e : Exn) (f : α → O β) : bnd (.ex e) f = .ex e := rfl

/-! ### kinds of slots, frames, states -/
inductive Ct where
  | l | dk | dt
inductive Kd where
  | no | im (fr : Bool) | own (c : Ct) (fr : Bool)
structure Fm where
  H0 : Hp
  G : Addr → Prop
  Γ : List (List V × List Dt × Bool)
  P : List Addr

def Ow (Δ : List Kd) (σ : St) (a : Addr) : Prop := ∃ (i : Nat) (c : Ct) (fr : Bool), Δ[i]? = some (Kd.own c fr) ∧ σ[i]? = some (some (V.ref a))
def FM (f : Fm) (Δ : List Kd) (σ : St) (av fr : Bool) (a : Addr) : Prop := (av = true → ¬ Ow Δ σ a ∧ a ∉ f.P) ∧ (fr = true → f.G a)

def keyD : Key → Dt
  | .inl i => .int i
  | .inr x => .str x
inductive KvA (K : PySem.W.Frag) (F : Addr → Prop) (H : Hp) : List (Key × V) → List (Dt × Dt) → Prop
  | nil : KvA K F H [] []
  | cons {k : Key} {v : V} {d : Dt} {kvs : List (Key × V)} {es : List (Dt × Dt)} : Rp K F H v d → KvA K F H kvs es → KvA K F H ((k, v) :: kvs) ((keyD k, d) :: es)
inductive KtA (K : PySem.W.Frag) (F : Addr → Prop) (H : Hp) : List (List Key × V) → List (Dt × Dt) → Prop
  | nil : KtA K F H [] []
  | cons {k : List Key} {v : V} {d : Dt} {kvs : List (List Key × V)} {es : List (Dt × Dt)} : Rp K F H v d → KtA K F H kvs es → KtA K F H ((k, v) :: kvs) ((.tuple (k.map keyD), d) :: es)
def OwC (K : PySem.W.Frag) (c : Ct) (F : Addr → Prop) (H : Hp) (p : Addr) (d : Dt) : Prop := match c with
  | .l => ∃ vs ds, d = .list ds ∧ H p = some (.lst vs) ∧ RpA K F H vs ds
  | .dk => ∃ kvs es, d = .dict es ∧ H p = some (.dK kvs) ∧ KvA K F H kvs es
  | .dt => ∃ kvs es, d = .dict es ∧ H p = some (.dT kvs) ∧ KtA K F H kvs es

section
variable {K : PySem.W.Frag} {F F' : Addr → Prop} {H H' : Hp} {p q : Addr} {d : Dt} {c : Ct}
theorem KvA.map {kvs es} (f : ∀ v d, Rp K F H v d → Rp K F' H' v d) : KvA K F H kvs es → KvA K F' H' kvs es
  | .nil => .nil
  | .cons h r => .cons (f _ _ h) (KvA.map f r)
theorem KtA.map {kvs es} (f : ∀ v d, Rp K F H v d → Rp K F' H' v d) : KtA K F H kvs es → KtA K F' H' kvs es
  | .nil => .nil
  | .cons h r => .cons (f _ _ h) (KtA.map f r)
theorem RpA.map {vs ds} (f : ∀ v d, Rp K F H v d → Rp K F' H' v d) : RpA K F H vs ds → RpA K F' H' vs ds
  | .nil => .nil
  | .cons h r => .cons (f _ _ h) (RpA.map f r)
theorem OwC.map (hp : ∀ o, H p = some o → H' p = some o) (f : ∀ v d, Rp K F H v d → Rp K F' H' v d) (h : OwC K c F H p d) : OwC K c F' H' p d := by
  cases c with
  | l => obtain ⟨vs, ds, e, h1, h2⟩ := h; exact ⟨vs, ds, e, hp _ h1, h2.map f⟩
  | dk => obtain ⟨vs, ds, e, h1, h2⟩ := h; exact ⟨vs, ds, e, hp _ h1, h2.map f⟩
  | dt => obtain ⟨vs, ds, e, h1, h2⟩ := h; exact ⟨vs, ds, e, hp _ h1, h2.map f⟩
theorem OwC.mutb (h : OwC K c F H p d) : ∃ o, H p = some o ∧ Mutb o := by
  cases c with
  | l => obtain ⟨vs, ds, e, h1, h2⟩ := h; exact ⟨_, h1, trivial⟩
  | dk => obtain ⟨vs, ds, e, h1, h2⟩ := h; exact ⟨_, h1, trivial⟩
  | dt => obtain ⟨vs, ds, e, h1, h2⟩ := h; exact ⟨_, h1, trivial⟩
theorem OwC.there (h : OwC K c F H p d) : H p ≠ none := by
  obtain ⟨o, e, _⟩ := h.mutb
  rw [e]
  exact fun z => nomatch z
end

structure R (K : PySem.W.Frag) (f : Fm) (Δ : List Kd) (ρ : List Dt) (σ : St) (H : Hp) : Prop where
  ext : Same f.H0 H
  g0 : ∀ a, f.H0 a = none → f.G a
  lσ : σ.length = Δ.length
  lρ : ρ.length = Δ.length
  inj : ∀ (i j : Nat) (ci : Ct) (fi : Bool) (cj : Ct) (fj : Bool) (p : Addr), Δ[i]? = some (Kd.own ci fi) → Δ[j]? = some (Kd.own cj fj) → σ[i]? = some (some (V.ref p)) → σ[j]? = some (some (V.ref p)) → i = j
  pin : ∀ a ∈ f.P, (∃ o, H a = some o ∧ Mutb o) ∧ ¬ Ow Δ σ a
  gh : ∀ g ∈ f.Γ, RpA K (FM f Δ σ true g.2.2) H g.1 g.2.1
  im : ∀ (i : Nat) (fr : Bool), Δ[i]? = some (Kd.im fr) → ∃ v d, σ[i]? = some (some v) ∧ ρ[i]? = some d ∧ Rp K (FM f Δ σ true fr) H v d
  ow : ∀ (i : Nat) (c : Ct) (fr : Bool), Δ[i]? = some (Kd.own c fr) → ∃ p d, σ[i]? = some (some (V.ref p)) ∧ ρ[i]? = some d ∧ f.H0 p = none ∧ OwC K c (FM f Δ σ true fr) H p d

section
variable {K : PySem.W.Frag} {f : Fm} {Δ : List Kd} {ρ : List Dt} {σ : St} {H H' : Hp} {v : V} {d : Dt} {i : Nat} {p : Addr}

theorem FM.weak {av fr av' fr' : Bool} (h1 : av' = true → av = true) (h2 : fr' = true → fr = true) {a : Addr} (h : FM f Δ σ av fr a) : FM f Δ σ av' fr' a := ⟨fun e => h.1 (h1 e), fun e => h.2 (h2 e)⟩

theorem R.mono (r : R K f Δ ρ σ H) (e : Same H H') : R K f Δ ρ σ H' where
  ext := r.ext.trans e
  g0 := r.g0
  lσ := r.lσ
  lρ := r.lρ
  inj := r.inj
  pin := fun a ha => let ⟨⟨o, h1, h2⟩, h3⟩ := r.pin a ha; ⟨⟨o, e _ _ h1, h2⟩, h3⟩
  gh := fun g hg => (r.gh g hg).same e
  im := fun i fr h => let ⟨v, d, h1, h2, h3⟩ := r.im i fr h; ⟨v, d, h1, h2, h3.same e⟩
  ow := fun i c fr h => let ⟨p, d, h1, h2, h3, h4⟩ := r.ow i c fr h; ⟨p, d, h1, h2, h3, h4.map (fun o => e p o) fun _ _ q => q.same e⟩

theorem R.owOf (r : R K f Δ ρ σ H) {a : Addr} (h : Ow Δ σ a) : (∃ o, H a = some o ∧ Mutb o) ∧ f.H0 a = none := by
  obtain ⟨i, c, fr, h1, h2⟩ := h
  obtain ⟨p, d, e1, _, e3, e4⟩ := r.ow i c fr h1
  rw [h2] at e1
  cases e1
  exact ⟨e4.mutb, e3⟩
theorem R.fresh (r : R K f Δ ρ σ H) (h : H p = none) : ¬ Ow Δ σ p ∧ p ∉ f.P ∧ f.H0 p = none := by
  refine ⟨fun z => ?_, fun z => ?_, ?_⟩
  · obtain ⟨⟨o, e, _⟩, _⟩ := r.owOf z
    rw [h] at e; cases e
  · obtain ⟨⟨o, e, _⟩, _⟩ := r.pin p z
    rw [h] at e; cases e
  · cases q : f.H0 p with
    | none => rfl
    | some o => rw [r.ext p o q] at h; cases h

/-- an update at a place that no datum reaches (an owned one's content, or a pinned one) -/
theorem R.updAt {o o' : HO} (r : R K f Δ ρ σ H) (hp : H p = some o) (m : Mutb o) (m' : Mutb o') (h0 : f.H0 p = none) (no : ¬ Ow Δ σ p) (hP : p ∈ f.P) : R K f Δ ρ σ (upd H p o') := by
  have key : ∀ {fr : Bool} {v : V} {d : Dt}, Rp K (FM f Δ σ true fr) H v d → Rp K (FM f Δ σ true fr) (upd H p o') v d := fun h =>
    h.updM hp m fun a fa z => (fa.1 rfl).2 (z ▸ hP)
  refine ⟨fun b u e => ?_, r.g0, r.lσ, r.lρ, r.inj, fun a ha => ⟨?_, (r.pin a ha).2⟩, fun g hg => (r.gh g hg).map fun _ _ x => key x, fun i fr h => ?_, fun i c fr h => ?_⟩
  · have : b ≠ p := fun z => by subst z; rw [h0] at e; cases e
    rw [upd_ne this]
    exact r.ext b u e
  · by_cases z : a = p
    · subst z
      exact ⟨o', upd_same, m'⟩
    · rw [upd_ne z]
      exact (r.pin a ha).1
  · obtain ⟨v, d, h1, h2, h3⟩ := r.im i fr h
    exact ⟨v, d, h1, h2, key h3⟩
  · obtain ⟨q, d, h1, h2, h3, h4⟩ := r.ow i c fr h
    have nq : q ≠ p := fun z => no ⟨i, c, fr, h, z ▸ h1⟩
    exact ⟨q, d, h1, h2, h3, h4.map (fun u e => by rw [upd_ne nq]; exact e) fun _ _ x => key x⟩

/-- an owned object's content is replaced -/
theorem R.updOwn {o' : HO} {c : Ct} {fr : Bool} (r : R K f Δ ρ σ H) (hk : Δ[i]? = some (Kd.own c fr)) (hs : σ[i]? = some (some (V.ref p)))
    {fr' : Bool} (m' : Mutb o') {c' : Ct} (new : OwC K c' (FM f Δ σ true fr') (upd H p o') p d) : R K f (Δ.set i (.own c' fr')) (ρ.set i d) σ (upd H p o') := by
  obtain ⟨p', d', e1, e2, e3, e4⟩ := r.ow i c fr hk
  rw [hs] at e1
  cases e1
  obtain ⟨o, ho, mo⟩ := e4.mutb
  have hi : i < Δ.length := (List.getElem?_eq_some_iff.mp hk).1
  have owp : Ow Δ σ p := ⟨i, c, fr, hk, hs⟩
  have ow' : ∀ a, Ow (Δ.set i (.own c' fr')) σ a ↔ Ow Δ σ a := fun a => by
    constructor
    · rintro ⟨j, cj, fj, h1, h2⟩
      by_cases z : i = j
      · subst z
        rw [hs] at h2
        cases h2
        exact owp
      · rw [List.getElem?_set_ne z] at h1
        exact ⟨j, cj, fj, h1, h2⟩
    · rintro ⟨j, cj, fj, h1, h2⟩
      by_cases z : i = j
      · subst z
        exact ⟨i, c', fr', by rw [List.getElem?_set_self hi], h2⟩
      · exact ⟨j, cj, fj, by rw [List.getElem?_set_ne z]; exact h1, h2⟩
  have key : ∀ {fr : Bool} {v : V} {d : Dt}, Rp K (FM f Δ σ true fr) H v d → Rp K (FM f (Δ.set i (.own c' fr')) σ true fr) (upd H p o') v d := fun h =>
    (h.updM ho mo fun a fa z => (fa.1 rfl).1 (z ▸ owp)).weak fun a fa => ⟨fun _ => ⟨fun z => (fa.1 rfl).1 ((ow' a).mp z), (fa.1 rfl).2⟩, fa.2⟩
  have key2 : ∀ {fr : Bool} {v : V} {d : Dt}, Rp K (FM f Δ σ true fr) (upd H p o') v d → Rp K (FM f (Δ.set i (.own c' fr')) σ true fr) (upd H p o') v d := fun h =>
    h.weak fun a fa => ⟨fun _ => ⟨fun z => (fa.1 rfl).1 ((ow' a).mp z), (fa.1 rfl).2⟩, fa.2⟩
  refine ⟨fun b u e => ?_, r.g0, by rw [List.length_set]; exact r.lσ, by rw [List.length_set, List.length_set]; exact r.lρ, ?_, fun a ha => ?_, fun g hg => (r.gh g hg).map fun _ _ x => key x, fun j fj h => ?_, fun j cj fj h => ?_⟩
  · have : b ≠ p := fun z => by subst z; rw [e3] at e; cases e
    rw [upd_ne this]
    exact r.ext b u e
  · intro j k cj fj ck fk q h1 h2 h3 h4
    have g : ∀ {j : Nat} {cj : Ct} {fj : Bool}, (Δ.set i (Kd.own c' fr'))[j]? = some (Kd.own cj fj) → ∃ (cj : Ct) (fj : Bool), Δ[j]? = some (Kd.own cj fj) := fun {j cj fj} h => by
      by_cases z : i = j
      · subst z; exact ⟨_, _, hk⟩
      · rw [List.getElem?_set_ne z] at h; exact ⟨_, _, h⟩
    obtain ⟨_, _, g1⟩ := g h1
    obtain ⟨_, _, g2⟩ := g h2
    exact r.inj j k _ _ _ _ q g1 g2 h3 h4
  · obtain ⟨⟨u, hu, mu⟩, no⟩ := r.pin a ha
    have na : a ≠ p := fun z => no (z ▸ owp)
    exact ⟨⟨u, by rw [upd_ne na]; exact hu, mu⟩, fun z => no ((ow' a).mp z)⟩
  · by_cases z : i = j
    · subst z
      rw [List.getElem?_set_self hi] at h
      cases h
    · rw [List.getElem?_set_ne z] at h
      obtain ⟨v, d, h1, h2, h3⟩ := r.im j fj h
      exact ⟨v, d, h1, by rw [List.getElem?_set_ne z]; exact h2, key h3⟩
  · by_cases z : i = j
    · subst z
      rw [List.getElem?_set_self hi] at h
      cases h
      exact ⟨p, d, hs, by rw [List.getElem?_set_self (by rw [r.lρ]; exact hi)], e3, new.map (fun o e => e) fun _ _ x => key2 x⟩
    · rw [List.getElem?_set_ne z] at h
      obtain ⟨q, d, h1, h2, h3, h4⟩ := r.ow j cj fj h
      have nq : q ≠ p := fun y => z (r.inj i j _ _ _ _ p hk h hs (y ▸ h1))
      exact ⟨q, d, h1, by rw [List.getElem?_set_ne z]; exact h2, h3, h4.map (fun u e => by rw [upd_ne nq]; exact e) fun _ _ x => key x⟩

/-- slot i gets a value; or is forgotten -/
theorem R.setIm {fr : Bool} (r : R K f Δ ρ σ H) (hi : i < Δ.length) (h : Rp K (FM f Δ σ true fr) H v d) : R K f (Δ.set i (.im fr)) (ρ.set i d) (σ.set i (some v)) H := by
  have ow' : ∀ a, Ow (Δ.set i (.im fr)) (σ.set i (some v)) a → Ow Δ σ a := fun a => by
    rintro ⟨j, cj, fj, h1, h2⟩
    by_cases z : i = j
    · subst z
      rw [List.getElem?_set_self hi] at h1
      cases h1
    · rw [List.getElem?_set_ne z] at h1 h2
      exact ⟨j, cj, fj, h1, h2⟩
  have key : ∀ {fr' : Bool} {v' : V} {d' : Dt}, Rp K (FM f Δ σ true fr') H v' d' → Rp K (FM f (Δ.set i (.im fr)) (σ.set i (some v)) true fr') H v' d' := fun h =>
    h.weak fun a fa => ⟨fun _ => ⟨fun z => (fa.1 rfl).1 (ow' a z), (fa.1 rfl).2⟩, fa.2⟩
  refine ⟨r.ext, r.g0, by rw [List.length_set, List.length_set]; exact r.lσ, by rw [List.length_set, List.length_set]; exact r.lρ, ?_, fun a ha => ⟨(r.pin a ha).1, fun z => (r.pin a ha).2 (ow' a z)⟩, fun g hg => (r.gh g hg).map fun _ _ x => key x, fun j fj h' => ?_, fun j cj fj h' => ?_⟩
  · intro j k cj fj ck fk q h1 h2 h3 h4
    have g : ∀ {j : Nat} {cj : Ct} {fj : Bool}, (Δ.set i (Kd.im fr))[j]? = some (Kd.own cj fj) → i ≠ j ∧ Δ[j]? = some (Kd.own cj fj) := fun {j cj fj} h => by
      by_cases z : i = j
      · subst z; rw [List.getElem?_set_self hi] at h; cases h
      · rw [List.getElem?_set_ne z] at h; exact ⟨z, h⟩
    obtain ⟨z1, g1⟩ := g h1
    obtain ⟨z2, g2⟩ := g h2
    rw [List.getElem?_set_ne z1] at h3
    rw [List.getElem?_set_ne z2] at h4
    exact r.inj j k _ _ _ _ q g1 g2 h3 h4
  · by_cases z : i = j
    · subst z
      rw [List.getElem?_set_self hi] at h'
      cases h'
      exact ⟨v, d, by rw [List.getElem?_set_self (by rw [r.lσ]; exact hi)], by rw [List.getElem?_set_self (by rw [r.lρ]; exact hi)], key h⟩
    · rw [List.getElem?_set_ne z] at h'
      obtain ⟨v', d', h1, h2, h3⟩ := r.im j fj h'
      exact ⟨v', d', by rw [List.getElem?_set_ne z]; exact h1, by rw [List.getElem?_set_ne z]; exact h2, key h3⟩
  · by_cases z : i = j
    · subst z
      rw [List.getElem?_set_self hi] at h'
      cases h'
    · rw [List.getElem?_set_ne z] at h'
      obtain ⟨q, d', h1, h2, h3, h4⟩ := r.ow j cj fj h'
      exact ⟨q, d', by rw [List.getElem?_set_ne z]; exact h1, by rw [List.getElem?_set_ne z]; exact h2, h3, h4.map (fun u e => e) fun _ _ x => key x⟩

/-- slot i gets a new object of its own -/
theorem R.setOwn {c : Ct} {fr : Bool} (r0 : R K f Δ ρ σ H) (hi : i < Δ.length) (hp : H p = none) (e : Same H H') (h : OwC K c (fun a => FM f Δ σ true fr a ∧ a ≠ p) H' p d) :
    R K f (Δ.set i (.own c fr)) (ρ.set i d) (σ.set i (some (.ref p))) H' := by
  have r := r0.mono e
  obtain ⟨f1, f2, f3⟩ := r0.fresh hp
  have ow' : ∀ a, Ow (Δ.set i (.own c fr)) (σ.set i (some (.ref p))) a → Ow Δ σ a ∨ a = p := fun a => by
    rintro ⟨j, cj, fj, h1, h2⟩
    by_cases z : i = j
    · subst z
      rw [List.getElem?_set_self (by rw [r.lσ]; exact hi)] at h2
      cases h2
      exact .inr rfl
    · rw [List.getElem?_set_ne z] at h1 h2
      exact .inl ⟨j, cj, fj, h1, h2⟩
  have key : ∀ {fr' : Bool} {v' : V} {d' : Dt}, Rp K (FM f Δ σ true fr') H v' d' → Rp K (FM f (Δ.set i (.own c fr)) (σ.set i (some (.ref p))) true fr') H' v' d' := fun h =>
    h.mono e fun a fa na => ⟨fun _ => ⟨fun z => by
      rcases ow' a z with z | z
      · exact (fa.1 rfl).1 z
      · exact na (z ▸ hp), (fa.1 rfl).2⟩, fa.2⟩
  have keyN : ∀ {fr' : Bool} {v' : V} {d' : Dt}, Rp K (fun a => FM f Δ σ true fr' a ∧ a ≠ p) H' v' d' → Rp K (FM f (Δ.set i (.own c fr)) (σ.set i (some (.ref p))) true fr') H' v' d' := fun h =>
    h.weak fun a fa => ⟨fun _ => ⟨fun z => by
      rcases ow' a z with z | z
      · exact (fa.1.1 rfl).1 z
      · exact fa.2 z, (fa.1.1 rfl).2⟩, fa.1.2⟩
  refine ⟨r.ext, r.g0, by rw [List.length_set, List.length_set]; exact r.lσ, by rw [List.length_set, List.length_set]; exact r.lρ, ?_, fun a ha => ⟨(r.pin a ha).1, fun z => ?_⟩, fun g hg => (r0.gh g hg).map fun _ _ x => key x, fun j fj h' => ?_, fun j cj fj h' => ?_⟩
  · have g : ∀ {j : Nat} {cj : Ct} {fj : Bool} {q : Addr}, (Δ.set i (Kd.own c fr))[j]? = some (Kd.own cj fj) → (σ.set i (some (V.ref p)))[j]? = some (some (V.ref q)) → (i = j ∧ q = p) ∨ (i ≠ j ∧ Δ[j]? = some (Kd.own cj fj) ∧ σ[j]? = some (some (V.ref q)) ∧ q ≠ p) := fun {j cj fj q} h h2 => by
      by_cases z : i = j
      · subst z
        rw [List.getElem?_set_self (by rw [r.lσ]; exact hi)] at h2
        cases h2
        exact .inl ⟨rfl, rfl⟩
      · rw [List.getElem?_set_ne z] at h h2
        exact .inr ⟨z, h, h2, fun y => f1 ⟨j, cj, fj, h, y ▸ h2⟩⟩
    intro j k cj fj ck fk q h1 h2 h3 h4
    rcases g h1 h3 with ⟨a1, b1⟩ | ⟨a1, b1, c1, d1⟩
    · rcases g h2 h4 with ⟨a2, b2⟩ | ⟨a2, b2, c2, d2⟩
      · exact a1 ▸ a2
      · exact (d2 b1).elim
    · rcases g h2 h4 with ⟨a2, b2⟩ | ⟨a2, b2, c2, d2⟩
      · exact (d1 b2).elim
      · exact r.inj j k _ _ _ _ q b1 b2 c1 c2
  · rcases ow' a z with z | z
    · exact (r0.pin a ha).2 z
    · exact f2 (z ▸ ha)
  · by_cases z : i = j
    · subst z
      rw [List.getElem?_set_self hi] at h'
      cases h'
    · rw [List.getElem?_set_ne z] at h'
      obtain ⟨v', d', h1, h2, h3⟩ := r0.im j fj h'
      exact ⟨v', d', by rw [List.getElem?_set_ne z]; exact h1, by rw [List.getElem?_set_ne z]; exact h2, key h3⟩
  · by_cases z : i = j
    · subst z
      rw [List.getElem?_set_self hi] at h'
      cases h'
      exact ⟨p, d, by rw [List.getElem?_set_self (by rw [r.lσ]; exact hi)], by rw [List.getElem?_set_self (by rw [r.lρ]; exact hi)], f3, h.map (fun o e => e) fun _ _ x => keyN x⟩
    · rw [List.getElem?_set_ne z] at h'
      obtain ⟨q, d', h1, h2, h3, h4⟩ := r0.ow j cj fj h'
      exact ⟨q, d', by rw [List.getElem?_set_ne z]; exact h1, by rw [List.getElem?_set_ne z]; exact h2, h3, h4.map (fun u x => e _ _ x) fun _ _ x => key x⟩
end
end Sim
end T_SimA

section T_SimB
set_option Elab.async false
set_option linter.all false
set_option maxRecDepth 100000
/-! SimB: expressions. -/
namespace Sim
open PySem PySem.Spec L2
open PyProof.Rows hiding St

abbrev Wt := Exn → L2.St → Hp → Prop
abbrev Gd := List Dt → O Dt
inductive Rk where
  | v (av fr : Bool) | o (fr : Bool) | new (c : Ct) (fr : Bool)

def PoE (K : PySem.W.Frag) (W : Wt) (f : Fm) (Δ : List Kd) (σ : L2.St) (H : Hp) (k : Rk) (o : O Dt) (Q : VK) : Prop := match o with
  | .bad => False
  | .ex e => ∀ H', Same H H' → W e σ H'
  | .ok d => match k with
    | .v av fr => ∀ v H', Same H H' → Rp K (FM f Δ σ av fr) H' v d → Q v H'
    | .o fr => ∀ p H' vs ds, d = .list ds → Same H H' → H' p = some (.lst vs) → f.G p → RpA K (FM f Δ σ true fr) H' vs ds → Q (.ref p) H'
    | .new c fr => ∀ p H', H p = none → Same H H' → OwC K c (fun a => FM f Δ σ true fr a ∧ a ≠ p) H' p d → Q (.ref p) H'
def SE (K : PySem.W.Frag) (W : Wt) (Δ : List Kd) (te : TE) (k : Rk) (g : Gd) : Prop := ∀ f ρ σ H Q, R K f Δ ρ σ H → PoE K W f Δ σ H k (g ρ) Q → te σ H Q
def PoT (W : Wt) (σ : L2.St) (H : Hp) (o : O Bool) (Q : Bool → Hp → Prop) : Prop := match o with
  | .bad => False
  | .ex e => ∀ H', Same H H' → W e σ H'
  | .ok b => ∀ H', Same H H' → Q b H'
def ST (K : PySem.W.Frag) (W : Wt) (Δ : List Kd) (tt : TT) (g : List Dt → O Bool) : Prop := ∀ f ρ σ H Q, R K f Δ ρ σ H → PoT W σ H (g ρ) Q → tt σ H Q
def PoA (K : PySem.W.Frag) (W : Wt) (f : Fm) (Δ : List Kd) (σ : L2.St) (H : Hp) (av fr : Bool) (o : O (List Dt)) (Q : List V → Hp → Prop) : Prop := match o with
  | .bad => False
  | .ex e => ∀ H', Same H H' → W e σ H'
  | .ok ds => ∀ vs H', Same H H' → RpA K (FM f Δ σ av fr) H' vs ds → Q vs H'
def SA (K : PySem.W.Frag) (W : Wt) (Δ : List Kd) (ta : TA) (av fr : Bool) (g : List Dt → O (List Dt)) : Prop := ∀ f ρ σ H Q, R K f Δ ρ σ H → PoA K W f Δ σ H av fr (g ρ) Q → ta σ H Q

/-! ### the closures -/
def gVar (i : Nat) : Gd := fun ρ => match ρ[i]? with
  | some d => .ok d
  | none => .bad
def gC (d : Dt) : Gd := fun _ => .ok d
def gOp (h : Dt → Dt → O Dt) (a b : Gd) : Gd := fun ρ => bnd (a ρ) fun x => bnd (b ρ) fun y => h x y
def gUn (h : Dt → O Dt) (a : Gd) : Gd := fun ρ => bnd (a ρ) h
def gNil : List Dt → O (List Dt) := fun _ => .ok []
def gCons (a : Gd) (b : List Dt → O (List Dt)) : List Dt → O (List Dt) := fun ρ => bnd (a ρ) fun x => bnd (b ρ) fun xs => .ok (x :: xs)
def gTup (a : List Dt → O (List Dt)) : Gd := fun ρ => bnd (a ρ) fun xs => if xs.length ≤ 100000 then .ok (.tuple xs) else .bad
def gLst (a : List Dt → O (List Dt)) : Gd := fun ρ => bnd (a ρ) fun xs => if xs.length ≤ 100000 then .ok (.list xs) else .bad
def gPur (a : Gd) : Gd := fun ρ => bnd (a ρ) fun d => if pure1 d then .ok d else .bad
def pureIn : Dt → Bool
  | .list xs => pureA xs
  | d => pure1 d
def gPurN (a : Gd) : Gd := fun ρ => bnd (a ρ) fun d => if pureIn d then .ok d else .bad
def gIf (t : List Dt → O Bool) (a b : Gd) : Gd := fun ρ => bnd (t ρ) fun c => if c then a ρ else b ρ
def asB : Dt → O Bool
  | .bool b => .ok b
  | _ => .bad
def gTest (a : Gd) : List Dt → O Bool := fun ρ => bnd (a ρ) asB
def gNot (t : List Dt → O Bool) : List Dt → O Bool := fun ρ => bnd (t ρ) fun b => .ok (!b)
def gAnd (t u : List Dt → O Bool) : List Dt → O Bool := fun ρ => bnd (t ρ) fun b => if b then u ρ else .ok false
def gOr (t u : List Dt → O Bool) : List Dt → O Bool := fun ρ => bnd (t ρ) fun b => if b then .ok true else u ρ
def gAndV (a b : Gd) : Gd := fun ρ => bnd (a ρ) fun x => bnd (asB x) fun c => if c then b ρ else .ok (.bool false)
def gOrV (a b : Gd) : Gd := fun ρ => bnd (a ρ) fun x => bnd (asB x) fun c => if c then .ok (.bool true) else b ρ
def gNotV (a : Gd) : Gd := fun ρ => bnd (a ρ) fun x => bnd (asB x) fun c => .ok (.bool (!c))
def gCB (h : List Dt → O Dt) (a : List Dt → O (List Dt)) : Gd := fun ρ => bnd (a ρ) h
/-- scalars -/
def scl : Dt → Bool
  | .none => true
  | .bool _ => true
  | .int _ => true
  | .str _ => true
  | _ => false

section
variable {K : PySem.W.Frag} {W : Wt} {Δ : List Kd} {ta tb te : TE} {tt tu : TT} {tA tB' : TA} {ga gb g : Gd} {gt gu : List Dt → O Bool} {gA : List Dt → O (List Dt)} {k k1 k2 : Rk} {av fr av' fr' : Bool}

theorem Rp.scl_any {F F' : Addr → Prop} {H H' : Hp} {v : V} {d : Dt} (h : Rp K F H v d) (s : scl d = true) : Rp K F' H' v d := by
  cases h with
  | non => exact .non
  | bl b => exact .bl b
  | int i => exact .int i
  | str x => exact .str x
  | lst => cases s
  | fz => cases s
  | tup => cases s

/-! ### names and constants -/
theorem se_var {i : Nat} (hk : Δ[i]? = some (.im fr)) : SE K W Δ (tVar i) (.v true fr) (gVar i) := fun f ρ σ H Q r q => by
  obtain ⟨v, d, h1, h2, h3⟩ := r.im i fr hk
  unfold gVar at q
  rw [h2] at q
  exact ⟨v, h1, q v H (Same.refl H) h3⟩
theorem se_own {i : Nat} (hk : Δ[i]? = some (.own .l fr)) : SE K W Δ (tVar i) (.o fr) (gVar i) := fun f ρ σ H Q r q => by
  obtain ⟨p, d, h1, h2, h3, vs, ds, e, h4, h5⟩ := r.ow i .l fr hk
  subst e
  unfold gVar at q
  rw [h2] at q
  exact ⟨_, h1, q p H vs ds rfl (Same.refl H) h4 (r.g0 p h3) h5⟩
theorem se_c {v : V} {d : Dt} (h : Rp K (fun _ => False) (fun _ => none) v d) (s : scl d = true) : SE K W Δ (tC v) (.v true true) (gC d) := fun f ρ σ H Q r q =>
  q v H (Same.refl H) (h.scl_any s)
theorem se_int {i : Int} : SE K W Δ (tC (.int i)) (.v true true) (gC (.int i)) := se_c (.int i) rfl
theorem se_str {x : Str} : SE K W Δ (tC (.str x)) (.v true true) (gC (.str x)) := se_c (.str x) rfl
theorem se_bl {b : Bool} : SE K W Δ (tC (.bl b)) (.v true true) (gC (.bool b)) := se_c (.bl b) rfl
theorem se_non : SE K W Δ (tC .non) (.v true true) (gC .none) := se_c .non rfl

/-! ### weakening -/
theorem Rp.fm {f : Fm} {σ : L2.St} {H : Hp} {v : V} {d : Dt} (h1 : av' = true → av = true) (h2 : fr' = true → fr = true) (h : Rp K (FM f Δ σ av fr) H v d) : Rp K (FM f Δ σ av' fr') H v d := h.weak fun _ x => x.weak h1 h2
theorem SE.wk (h : SE K W Δ te (.v av fr) g) (h1 : av' = true → av = true := by decide) (h2 : fr' = true → fr = true := by decide) : SE K W Δ te (.v av' fr') g := fun f ρ σ H Q r q =>
  h f ρ σ H Q r <| by
    cases e : g ρ with
    | bad => rw [e] at q; exact q
    | ex z => rw [e] at q; exact q
    | ok d => rw [e] at q; exact fun v H' s x => q v H' s (x.fm h1 h2)
theorem SE.ov (h : SE K W Δ te (.o fr) g) : SE K W Δ te (.v false fr) g := fun f ρ σ H Q r q =>
  h f ρ σ H Q r <| by
    cases e : g ρ with
    | bad => rw [e] at q; exact q
    | ex z => rw [e] at q; exact q
    | ok d =>
      rw [e] at q
      intro p H' vs ds ed s hp gp x
      subst ed
      exact q _ H' s (.lst hp ⟨(nomatch ·), fun _ => gp⟩ (x.weak fun _ y => y.weak (fun _ => rfl) id))
theorem SE.nv (h : SE K W Δ te (.new .l fr) g) : SE K W Δ te (.v true fr) g := fun f ρ σ H Q r q =>
  h f ρ σ H Q r <| by
    cases e : g ρ with
    | bad => rw [e] at q; exact q
    | ex z => rw [e] at q; exact q
    | ok d =>
      rw [e] at q
      intro p H' np s x
      obtain ⟨vs, ds, ed, hp, x⟩ := x
      subst ed
      obtain ⟨f1, f2, f3⟩ := r.fresh np
      exact q _ H' s (.lst hp ⟨fun _ => ⟨f1, f2⟩, fun _ => r.g0 p f3⟩ (x.weak fun _ y => y.1))
theorem SE.no (h : SE K W Δ te (.new .l fr) g) : SE K W Δ te (.o fr) g := fun f ρ σ H Q r q =>
  h f ρ σ H Q r <| by
    cases e : g ρ with
    | bad => rw [e] at q; exact q
    | ex z => rw [e] at q; exact q
    | ok d =>
      rw [e] at q
      intro p H' np s x
      obtain ⟨vs, ds, ed, hp, x⟩ := x
      subst ed
      obtain ⟨f1, f2, f3⟩ := r.fresh np
      exact q _ H' vs ds rfl s hp (r.g0 p f3) (x.weak fun _ y => y.1)
theorem SE.pur (h : SE K W Δ te (.v av fr) g) : SE K W Δ te (.v true true) (gPur g) := fun f ρ σ H Q r q =>
  h f ρ σ H Q r <| by
    unfold gPur at q
    cases e : g ρ with
    | bad => rw [e] at q; exact q
    | ex z => rw [e] at q; exact q
    | ok d =>
      rw [e, bnd_ok] at q
      intro v H' s x
      by_cases p : pure1 d = true
      · rw [if_pos p] at q
        exact q v H' s (x.pure p)
      · rw [if_neg p] at q
        exact q.elim
theorem pureIn_list {ds : List Dt} : pureIn (.list ds) = pureA ds := rfl
theorem SE.purN (h : SE K W Δ te (.new .l fr) g) : SE K W Δ te (.new .l true) (gPurN g) := fun f ρ σ H Q r q =>
  h f ρ σ H Q r <| by
    unfold gPurN at q
    cases e : g ρ with
    | bad => rw [e] at q; exact q
    | ex z => rw [e] at q; exact q
    | ok d =>
      rw [e, bnd_ok] at q
      intro p H' np s x
      obtain ⟨vs, ds, ed, hp, x⟩ := x
      subst ed
      rw [pureIn_list] at q
      by_cases pp : pureA ds = true
      · rw [if_pos pp] at q
        exact q p H' np s ⟨vs, ds, rfl, hp, x.pure pp⟩
      · rw [if_neg pp] at q
        exact q.elim
theorem SE.purO (h : SE K W Δ te (.o fr) g) : SE K W Δ te (.o true) (gPurN g) := fun f ρ σ H Q r q =>
  h f ρ σ H Q r <| by
    unfold gPurN at q
    cases e : g ρ with
    | bad => rw [e] at q; exact q
    | ex z => rw [e] at q; exact q
    | ok d =>
      rw [e, bnd_ok] at q
      intro p H' vs ds ed s hp gp x
      subst ed
      rw [pureIn_list] at q
      by_cases pp : pureA ds = true
      · rw [if_pos pp] at q
        exact q p H' vs ds rfl s hp gp (x.pure pp)
      · rw [if_neg pp] at q
        exact q.elim

/-! ### operators on two, on one: the answer a scalar -/
def OSc (K : PySem.W.Frag) (r : R2) (h : Dt → Dt → O Dt) : Prop := ∀ H x y d e Q, Rp K (fun _ => True) H x d → Rp K (fun _ => True) H y e →
  (match h d e with | .ok z => scl z = true ∧ (∀ v, Rp K (fun _ => False) (fun _ => none) v z → Q v H) | _ => False) → r x y H Q
def USc (K : PySem.W.Frag) (r : V → Hp → VK → Prop) (h : Dt → O Dt) : Prop := ∀ H x d Q, Rp K (fun _ => True) H x d →
  (match h d with | .ok z => scl z = true ∧ (∀ v, Rp K (fun _ => False) (fun _ => none) v z → Q v H) | _ => False) → r x H Q
def CSc (K : PySem.W.Frag) (r : List V → Hp → VK → Prop) (h : List Dt → O Dt) : Prop := ∀ H xs ds Q, RpA K (fun _ => True) H xs ds →
  (match h ds with | .ok z => scl z = true ∧ (∀ v, Rp K (fun _ => False) (fun _ => none) v z → Q v H) | _ => False) → r xs H Q
/-- h gives scalars or nothing -/
def Scl2 (h : Dt → Dt → O Dt) : Prop := ∀ d e, (∃ z, h d e = .ok z ∧ scl z = true) ∨ h d e = .bad
def Scl1 (h : Dt → O Dt) : Prop := ∀ d, (∃ z, h d = .ok z ∧ scl z = true) ∨ h d = .bad
def SclA (h : List Dt → O Dt) : Prop := ∀ d, (∃ z, h d = .ok z ∧ scl z = true) ∨ h d = .bad

theorem se_op {r : R2} {h : Dt → Dt → O Dt} (hs : Scl2 h) (ho : OSc K r h) (ha : SE K W Δ ta (.v av fr) ga) (hb : SE K W Δ tb (.v av' fr') gb) : SE K W Δ (tOp r ta tb) (.v true true) (gOp h ga gb) := fun f ρ σ H Q R q => by
  refine ha f ρ σ H _ R ?_
  unfold gOp at q
  cases e1 : ga ρ with
  | bad => rw [e1] at q; exact q
  | ex z => rw [e1] at q; exact q
  | ok d =>
    rw [e1, bnd_ok] at q
    intro v H1 s1 x1
    refine hb f ρ σ H1 _ (R.mono s1) ?_
    cases e2 : gb ρ with
    | bad => rw [e2] at q; exact q
    | ex z => rw [e2] at q; exact fun H' s => q H' (s1.trans s)
    | ok d2 =>
      rw [e2, bnd_ok] at q
      intro v2 H2 s2 x2
      refine ho H2 v v2 d d2 Q ((x1.same s2).weak fun _ _ => trivial) (x2.weak fun _ _ => trivial) ?_
      rcases hs d d2 with ⟨z, ez, sz⟩ | ez
      · rw [ez] at q ⊢
        exact ⟨sz, fun w x => q w H2 (s1.trans s2) (x.scl_any sz)⟩
      · rw [ez] at q
        exact q.elim
theorem se_un {r : V → Hp → VK → Prop} {h : Dt → O Dt} (hs : Scl1 h) (ho : USc K r h) (ha : SE K W Δ ta (.v av fr) ga) : SE K W Δ (tUn r ta) (.v true true) (gUn h ga) := fun f ρ σ H Q R q => by
  refine ha f ρ σ H _ R ?_
  unfold gUn at q
  cases e1 : ga ρ with
  | bad => rw [e1] at q; exact q
  | ex z => rw [e1] at q; exact q
  | ok d =>
    rw [e1, bnd_ok] at q
    intro v H1 s1 x1
    refine ho H1 v d Q (x1.weak fun _ _ => trivial) ?_
    rcases hs d with ⟨z, ez, sz⟩ | ez
    · rw [ez] at q ⊢
      exact ⟨sz, fun w x => q w H1 s1 (x.scl_any sz)⟩
    · rw [ez] at q
      exact q.elim
theorem se_cb {r : List V → Hp → VK → Prop} {h : List Dt → O Dt} (hs : SclA h) (ho : CSc K r h) (ha : SA K W Δ tA av fr gA) : SE K W Δ (tCB r tA) (.v true true) (gCB h gA) := fun f ρ σ H Q R q => by
  refine ha f ρ σ H _ R ?_
  unfold gCB at q
  cases e1 : gA ρ with
  | bad => rw [e1] at q; exact q
  | ex z => rw [e1] at q; exact q
  | ok d =>
    rw [e1, bnd_ok] at q
    intro v H1 s1 x1
    refine ho H1 v d Q (x1.weak fun _ _ => trivial) ?_
    rcases hs d with ⟨z, ez, sz⟩ | ez
    · rw [ez] at q ⊢
      exact ⟨sz, fun w x => q w H1 s1 (x.scl_any sz)⟩
    · rw [ez] at q
      exact q.elim

/-! ### argument lists, tuples, lists -/
theorem sa_nil : SA K W Δ tNil true true gNil := fun f ρ σ H Q R q => q [] H (Same.refl H) .nil
theorem sa_cons (ha : SE K W Δ ta (.v av fr) ga) (hr : SA K W Δ tA av' fr' gA) : SA K W Δ (tCons ta tA) (av && av') (fr && fr') (gCons ga gA) := fun f ρ σ H Q R q => by
  refine ha f ρ σ H _ R ?_
  unfold gCons at q
  cases e1 : ga ρ with
  | bad => rw [e1] at q; exact q
  | ex z => rw [e1] at q; exact q
  | ok d =>
    rw [e1, bnd_ok] at q
    intro v H1 s1 x1
    refine hr f ρ σ H1 _ (R.mono s1) ?_
    cases e2 : gA ρ with
    | bad => rw [e2] at q; exact q
    | ex z => rw [e2] at q; exact fun H' s => q H' (s1.trans s)
    | ok ds =>
      rw [e2, bnd_ok] at q
      intro vs H2 s2 x2
      exact q (v :: vs) H2 (s1.trans s2) (.cons ((x1.same s2).fm (fun h => (Bool.and_eq_true_iff.mp h).1) fun h => (Bool.and_eq_true_iff.mp h).1)
        (x2.weak fun _ y => y.weak (fun h => (Bool.and_eq_true_iff.mp h).2) fun h => (Bool.and_eq_true_iff.mp h).2))
theorem SA.wk (h : SA K W Δ tA av fr gA) (h1 : av' = true → av = true := by decide) (h2 : fr' = true → fr = true := by decide) : SA K W Δ tA av' fr' gA := fun f ρ σ H Q R q =>
  h f ρ σ H Q R <| by
    cases e : gA ρ with
    | bad => rw [e] at q; exact q
    | ex z => rw [e] at q; exact q
    | ok d => rw [e] at q; exact fun v H' s x => q v H' s (x.weak fun _ y => y.weak h1 h2)
theorem sz_le {n : Nat} (h : n ≤ 100000) : n ≤ sizeLine := Nat.le_trans h (by decide)
theorem same_upd {H : Hp} {p : Addr} {o : HO} (h : H p = none) : Same H (upd H p o) := fun b x e => by
  rw [upd_ne (ne_of_none e h)]
  exact e
theorem se_tup (ha : SA K W Δ tA av fr gA) : SE K W Δ (tTup tA) (.v av fr) (gTup gA) := fun f ρ σ H Q R q => by
  refine ha f ρ σ H _ R ?_
  unfold gTup at q
  cases e1 : gA ρ with
  | bad => rw [e1] at q; exact q
  | ex z => rw [e1] at q; exact q
  | ok ds =>
    rw [e1, bnd_ok] at q
    intro vs H1 s1 x1
    by_cases l : ds.length ≤ 100000
    · rw [if_pos l] at q
      refine ⟨by rw [x1.length]; exact sz_le l, fun p np => ?_⟩
      exact q _ _ (s1.trans (same_upd np)) (.tup (.inl (.inl upd_same)) (x1.same (same_upd np)))
    · rw [if_neg l] at q
      exact q.elim
theorem se_lst (ha : SA K W Δ tA true fr gA) : SE K W Δ (tLst tA) (.new .l fr) (gLst gA) := fun f ρ σ H Q R q => by
  refine ha f ρ σ H _ R ?_
  unfold gLst at q
  cases e1 : gA ρ with
  | bad => rw [e1] at q; exact q
  | ex z => rw [e1] at q; exact q
  | ok ds =>
    rw [e1, bnd_ok] at q
    intro vs H1 s1 x1
    by_cases l : ds.length ≤ 100000
    · rw [if_pos l] at q
      refine ⟨by rw [x1.length]; exact sz_le l, fun p np => ?_⟩
      refine q p _ (s1.free np) (s1.trans (same_upd np)) ⟨vs, ds, rfl, upd_same, x1.mono (same_upd np) fun a y z => ⟨y, fun e => z (e ▸ np)⟩⟩
    · rw [if_neg l] at q
      exact q.elim
/-- a list display of anything, only looked at -/
theorem se_lstv (ha : SA K W Δ tA av fr gA) : SE K W Δ (tLst tA) (.v av fr) (gLst gA) := fun f ρ σ H Q R q => by
  refine ha f ρ σ H _ R ?_
  unfold gLst at q
  cases e1 : gA ρ with
  | bad => rw [e1] at q; exact q
  | ex z => rw [e1] at q; exact q
  | ok ds =>
    rw [e1, bnd_ok] at q
    intro vs H1 s1 x1
    by_cases l : ds.length ≤ 100000
    · rw [if_pos l] at q
      refine ⟨by rw [x1.length]; exact sz_le l, fun p np => ?_⟩
      obtain ⟨f1, f2, f3⟩ := R.fresh (s1.free np)
      exact q _ _ (s1.trans (same_upd np)) (.lst upd_same ⟨fun _ => ⟨f1, f2⟩, fun _ => R.g0 p f3⟩ (x1.same (same_upd np)))
    · rw [if_neg l] at q
      exact q.elim

/-! ### tests -/
theorem st_test (ha : SE K W Δ te (.v av fr) g) : ST K W Δ (tTest te) (gTest g) := fun f ρ σ H Q R q => by
  refine ha f ρ σ H _ R ?_
  unfold gTest at q
  cases e1 : g ρ with
  | bad => rw [e1] at q; exact q
  | ex z => rw [e1] at q; exact q
  | ok d =>
    rw [e1, bnd_ok] at q
    intro v H1 s1 x1
    cases x1 with
    | bl b => exact ⟨b, rfl, q H1 s1⟩
    | non => exact q.elim
    | int => exact q.elim
    | str => exact q.elim
    | lst => exact q.elim
    | fz => exact q.elim
    | tup => exact q.elim
theorem st_B (ha : SE K W Δ te (.v av fr) g) : ST K W Δ (tB te) (gTest g) := st_test ha
theorem st_not (h : ST K W Δ tt gt) : ST K W Δ (tNot tt) (gNot gt) := fun f ρ σ H Q R q => by
  refine h f ρ σ H _ R ?_
  unfold gNot at q
  cases e1 : gt ρ with
  | bad => rw [e1] at q; exact q
  | ex z => rw [e1] at q; exact q
  | ok d => rw [e1, bnd_ok] at q; exact q
theorem st_and (h : ST K W Δ tt gt) (h2 : ST K W Δ tu gu) : ST K W Δ (tAnd tt tu) (gAnd gt gu) := fun f ρ σ H Q R q => by
  refine h f ρ σ H _ R ?_
  unfold gAnd at q
  cases e1 : gt ρ with
  | bad => rw [e1] at q; exact q
  | ex z => rw [e1] at q; exact q
  | ok b =>
    rw [e1, bnd_ok] at q
    intro H1 s1
    cases b with
    | false => exact q H1 s1
    | true =>
      refine h2 f ρ σ H1 _ (R.mono s1) ?_
      have q : PoT W σ H (gu ρ) Q := q
      cases e2 : gu ρ with
      | bad => rw [e2] at q; exact q
      | ex z => rw [e2] at q; exact fun H' s => q H' (s1.trans s)
      | ok b => rw [e2] at q; exact fun H' s => q H' (s1.trans s)
theorem st_or (h : ST K W Δ tt gt) (h2 : ST K W Δ tu gu) : ST K W Δ (tOr tt tu) (gOr gt gu) := fun f ρ σ H Q R q => by
  refine h f ρ σ H _ R ?_
  unfold gOr at q
  cases e1 : gt ρ with
  | bad => rw [e1] at q; exact q
  | ex z => rw [e1] at q; exact q
  | ok b =>
    rw [e1, bnd_ok] at q
    intro H1 s1
    cases b with
    | true => exact q H1 s1
    | false =>
      refine h2 f ρ σ H1 _ (R.mono s1) ?_
      have q : PoT W σ H (gu ρ) Q := q
      cases e2 : gu ρ with
      | bad => rw [e2] at q; exact q
      | ex z => rw [e2] at q; exact fun H' s => q H' (s1.trans s)
      | ok b => rw [e2] at q; exact fun H' s => q H' (s1.trans s)
theorem PoE.mono {f : Fm} {σ : L2.St} {H H' : Hp} {o : O Dt} {Q : VK} (s : Same H H') (h : PoE K W f Δ σ H k o Q) : PoE K W f Δ σ H' k o Q := by
  cases o with
  | bad => exact h
  | ex z => exact fun H2 s2 => h H2 (s.trans s2)
  | ok d =>
    cases k with
    | v av fr => exact fun v H2 s2 => h v H2 (s.trans s2)
    | o fr => exact fun p H2 vs ds e s2 => h p H2 vs ds e (s.trans s2)
    | new c fr => exact fun p H2 np s2 => h p H2 (s.free np) (s.trans s2)
theorem se_if (h : ST K W Δ tt gt) (ha : SE K W Δ ta k ga) (hb : SE K W Δ tb k gb) : SE K W Δ (tIf tt ta tb) k (gIf gt ga gb) := fun f ρ σ H Q R q => by
  refine h f ρ σ H _ R ?_
  unfold gIf at q
  cases e1 : gt ρ with
  | bad => rw [e1] at q; exact q
  | ex z => rw [e1] at q; exact q
  | ok b =>
    rw [e1, bnd_ok] at q
    intro H1 s1
    cases b with
    | true => exact ha f ρ σ H1 Q (R.mono s1) (PoE.mono s1 q)
    | false => exact hb f ρ σ H1 Q (R.mono s1) (PoE.mono s1 q)
theorem se_andV (ha : SE K W Δ ta (.v av fr) ga) (hb : SE K W Δ tb (.v true true) gb) : SE K W Δ (tAndV ta tb) (.v true true) (gAndV ga gb) := fun f ρ σ H Q R q => by
  refine ha f ρ σ H _ R ?_
  unfold gAndV at q
  cases e1 : ga ρ with
  | bad => rw [e1] at q; exact q
  | ex z => rw [e1] at q; exact q
  | ok d =>
    rw [e1, bnd_ok] at q
    intro v H1 s1 x1
    cases x1 with
    | bl b =>
      refine ⟨b, rfl, ?_⟩
      cases b with
      | true => exact hb f ρ σ H1 Q (R.mono s1) (PoE.mono s1 q)
      | false => exact q _ H1 s1 (.bl false)
    | non => exact q.elim
    | int => exact q.elim
    | str => exact q.elim
    | lst => exact q.elim
    | fz => exact q.elim
    | tup => exact q.elim
theorem se_orV (ha : SE K W Δ ta (.v av fr) ga) (hb : SE K W Δ tb (.v true true) gb) : SE K W Δ (tOrV ta tb) (.v true true) (gOrV ga gb) := fun f ρ σ H Q R q => by
  refine ha f ρ σ H _ R ?_
  unfold gOrV at q
  cases e1 : ga ρ with
  | bad => rw [e1] at q; exact q
  | ex z => rw [e1] at q; exact q
  | ok d =>
    rw [e1, bnd_ok] at q
    intro v H1 s1 x1
    cases x1 with
    | bl b =>
      refine ⟨b, rfl, ?_⟩
      cases b with
      | true => exact q _ H1 s1 (.bl true)
      | false => exact hb f ρ σ H1 Q (R.mono s1) (PoE.mono s1 q)
    | non => exact q.elim
    | int => exact q.elim
    | str => exact q.elim
    | lst => exact q.elim
    | fz => exact q.elim
    | tup => exact q.elim
theorem se_notV (ha : SE K W Δ ta (.v av fr) ga) : SE K W Δ (tNotV ta) (.v true true) (gNotV ga) := fun f ρ σ H Q R q => by
  refine ha f ρ σ H _ R ?_
  unfold gNotV at q
  cases e1 : ga ρ with
  | bad => rw [e1] at q; exact q
  | ex z => rw [e1] at q; exact q
  | ok d =>
    rw [e1, bnd_ok] at q
    intro v H1 s1 x1
    cases x1 with
    | bl b => exact ⟨b, rfl, q _ H1 s1 (.bl _)⟩
    | non => exact q.elim
    | int => exact q.elim
    | str => exact q.elim
    | lst => exact q.elim
    | fz => exact q.elim
    | tup => exact q.elim
end
end Sim
end T_SimB

section T_SimC
set_option Elab.async false
set_option linter.all false
set_option maxRecDepth 100000
/-! SimC: the rules by which an expression of the text gets its closure. -/
namespace Sim
open PySem PySem.Spec L2
open PyProof.Rows hiding St

structure PD (X : Cx) (K : PySem.W.Frag) (W : Wt) (Δ : List Kd) (e : Expr) (te : TE) (k : Rk) (g : Gd) : Prop where
  pe : PE X e te
  hK : X.K = K
  se : SE K W Δ te k g
structure TD (X : Cx) (K : PySem.W.Frag) (W : Wt) (Δ : List Kd) (e : Expr) (tt : TT) (g : List Dt → O Bool) : Prop where
  pt : PT X e tt
  hK : X.K = K
  st : ST K W Δ tt g
structure WD (X : Cx) (K : PySem.W.Frag) (W : Wt) (Δ : List Kd) (e : Expr) (tt : TT) (g : List Dt → O Bool) : Prop where
  pw : PW X e tt
  hK : X.K = K
  st : ST K W Δ tt g
structure AD (X : Cx) (K : PySem.W.Frag) (W : Wt) (Δ : List Kd) (es : List Expr) (ta : TA) (av fr : Bool) (g : List Dt → O (List Dt)) : Prop where
  pa : PA X es ta
  hK : X.K = K
  sa : SA K W Δ ta av fr g

/-! ### the closures of operators -/
def hI0 (g : Int → Int → Int) : Dt → Dt → O Dt := fun d e => match d, e with
  | .int i, .int j => .ok (.int (g i j))
  | _, _ => .bad
def hI (C : Int → Int → Bool) (g : Int → Int → Int) : Dt → Dt → O Dt := fun d e => match d, e with
  | .int i, .int j => if C i j then .ok (.int (g i j)) else .bad
  | _, _ => .bad
def hB0 (p : Int → Int → Bool) : Dt → Dt → O Dt := fun d e => match d, e with
  | .int i, .int j => .ok (.bool (p i j))
  | _, _ => .bad
def hU (g : Int → Int) : Dt → O Dt := fun d => match d with
  | .int i => .ok (.int (g i))
  | _ => .bad
def hAdd := hI0 fun i j => i + j
def hSub := hI0 fun i j => i - j
def cMul (i j : Int) : Bool := decide (i.natAbs < 2 ^ 64) || decide (j.natAbs < 2 ^ 64)
def hMul := hI cMul fun i j => i * j
def cDiv (_ j : Int) : Bool := decide (0 < j) && decide (j.natAbs < 2 ^ 400)
def hDiv := hI cDiv fun i j => i / j
def cMod (_ j : Int) : Bool := decide (0 < j)
def hMod := hI cMod fun i j => i % j
def cPow (i j : Int) : Bool := decide (0 ≤ j) && decide (j ≤ 1000000) && decide (i.natAbs < 2 ^ 64)
def hPow := hI cPow fun i j => i ^ j.toNat
def cShr (_ j : Int) : Bool := decide (0 ≤ j)
def hShr := hI cShr fun i j => i / 2 ^ j.toNat
def hBand := hI0 fun i j => Builtin.bitAnd i j
def hLt := hB0 fun i j => decide (i < j)
def hLe := hB0 fun i j => decide (i ≤ j)
def hGt := hB0 fun i j => decide (j < i)
def hGe := hB0 fun i j => decide (j ≤ i)
def hEq : Dt → Dt → O Dt := fun d e => if SeqAt.shaped d && SeqAt.shaped e then .ok (.bool (PyData.eqv d e)) else .bad
def hNe : Dt → Dt → O Dt := fun d e => if SeqAt.shaped d && SeqAt.shaped e then .ok (.bool (!PyData.eqv d e)) else .bad
def hIs : Dt → Dt → O Dt := fun d e => match e with
  | .none => .ok (.bool (match d with | .none => true | _ => false))
  | _ => .bad
def hIsNot : Dt → Dt → O Dt := fun d e => match e with
  | .none => .ok (.bool (match d with | .none => false | _ => true))
  | _ => .bad
def hIn : Dt → Dt → O Dt := fun d e => match e with
  | .list ds => if SeqAt.shaped d && SeqAt.shaped e then .ok (.bool (ds.any fun z => PyData.eqv z d)) else .bad
  | .tuple ds => if SeqAt.shaped d && SeqAt.shaped e then .ok (.bool (ds.any fun z => PyData.eqv z d)) else .bad
  | _ => .bad
def hNotIn : Dt → Dt → O Dt := fun d e => match e with
  | .list ds => if SeqAt.shaped d && SeqAt.shaped e then .ok (.bool (!ds.any fun z => PyData.eqv z d)) else .bad
  | .tuple ds => if SeqAt.shaped d && SeqAt.shaped e then .ok (.bool (!ds.any fun z => PyData.eqv z d)) else .bad
  | _ => .bad
def hLen : List Dt → O Dt := fun ds => match ds with
  | [.list xs] => .ok (.int xs.length)
  | [.tuple xs] => .ok (.int xs.length)
  | [.str x] => if x.length ≤ 100000 then .ok (.int x.length) else .bad
  | _ => .bad
def hMin2 : List Dt → O Dt := fun ds => match ds with
  | [.int i, .int j] => .ok (.int (if j < i then j else i))
  | _ => .bad
def hMax2 : List Dt → O Dt := fun ds => match ds with
  | [.int i, .int j] => .ok (.int (if j > i then j else i))
  | _ => .bad
def hMin3 : List Dt → O Dt := fun ds => match ds with
  | [.int i, .int j, .int k] => .ok (.int (if j < i then (if k < j then k else j) else (if k < i then k else i)))
  | _ => .bad
def hBits : Dt → O Dt := fun d => match d with
  | .int i => .ok (.int (Builtin.Int.intBits i : Nat))
  | _ => .bad
def hInt1 : List Dt → O Dt := fun ds => match ds with
  | [.int i] => .ok (.int i)
  | [.bool k] => .ok (.int (if k then 1 else 0))
  | _ => .bad
def allB : List Dt → Option (List Bool)
  | [] => some []
  | .bool b :: r => (allB r).map (b :: ·)
  | _ => none
def allI : List Dt → Option (List Int)
  | [] => some []
  | .int b :: r => (allI r).map (b :: ·)
  | _ => none
def hAll : List Dt → O Dt := fun ds => match ds with
  | [.list xs] => match allB xs with
    | some bs => .ok (.bool (bs.all id))
    | none => .bad
  | _ => .bad
def hAny : List Dt → O Dt := fun ds => match ds with
  | [.list xs] => match allB xs with
    | some bs => .ok (.bool (bs.any id))
    | none => .bad
  | _ => .bad
def hSum : List Dt → O Dt := fun ds => match ds with
  | [.list xs] => match allI xs with
    | some bs => .ok (.int bs.sum)
    | none => .bad
  | _ => .bad

section
variable {K : PySem.W.Frag}

theorem scl_I0 {g} : Scl2 (hI0 g) := fun d e => by cases d <;> cases e <;> first | exact .inr rfl | exact .inl ⟨_, rfl, rfl⟩
theorem scl_B0 {g} : Scl2 (hB0 g) := fun d e => by cases d <;> cases e <;> first | exact .inr rfl | exact .inl ⟨_, rfl, rfl⟩
theorem scl_I {C g} : Scl2 (hI C g) := fun d e => by
  cases d <;> cases e <;> first | exact .inr rfl | skip
  unfold hI
  simp only
  split
  · exact .inl ⟨_, rfl, rfl⟩
  · exact .inr rfl
theorem osc_I0 {g : Int → Int → Int} : OSc K (rI0 fun i j => .int (g i j)) (hI0 g) := fun H x y d e Q hx hy h => by
  cases hx <;> first | exact h.elim | skip
  cases hy <;> first | exact h.elim | skip
  exact ⟨_, _, rfl, rfl, h.2 _ (.int _)⟩
theorem osc_B0 {g : Int → Int → Bool} : OSc K (rI0 fun i j => .bl (g i j)) (hB0 g) := fun H x y d e Q hx hy h => by
  cases hx <;> first | exact h.elim | skip
  cases hy <;> first | exact h.elim | skip
  exact ⟨_, _, rfl, rfl, h.2 _ (.bl _)⟩
theorem osc_I {C : Int → Int → Bool} {C' : Int → Int → Prop} {g : Int → Int → Int} (hc : ∀ i j, C i j = true → C' i j) : OSc K (rI C' fun i j => .int (g i j)) (hI C g) := fun H x y d e Q hx hy h => by
  cases hx <;> first | exact h.elim | skip
  cases hy <;> first | exact h.elim | skip
  rename_i i j
  unfold hI at h
  simp only at h
  by_cases c : C i j = true
  · rw [if_pos c] at h
    exact ⟨_, _, rfl, rfl, hc _ _ c, h.2 _ (.int _)⟩
  · rw [if_neg c] at h
    exact h.elim
theorem usc_U {g : Int → Int} : USc K (rU fun i => .int (g i)) (hU g) := fun H x d Q hx h => by
  cases hx <;> first | exact h.elim | skip
  exact ⟨_, rfl, h.2 _ (.int _)⟩
theorem scl_U {g} : Scl1 (hU g) := fun d => by cases d <;> first | exact .inr rfl | exact .inl ⟨_, rfl, rfl⟩
theorem cMul_ok {i j : Int} (h : cMul i j = true) : CMul i j := by
  unfold cMul at h
  rw [Bool.or_eq_true, decide_eq_true_eq, decide_eq_true_eq] at h
  rcases h with h | h
  · exact .inl (by omega)
  · exact .inr (by omega)
theorem cDiv_ok {i j : Int} (h : cDiv i j = true) : CDivW i j := by
  unfold cDiv at h
  rw [Bool.and_eq_true, decide_eq_true_eq, decide_eq_true_eq] at h
  exact wide_div h.1 h.2 (by decide) (by decide)
theorem cMod_ok {i j : Int} (h : cMod i j = true) : 0 < j := by
  unfold cMod at h
  rw [decide_eq_true_eq] at h
  exact h
theorem cPow_ok {i j : Int} (h : cPow i j = true) : CPow i j := by
  unfold cPow at h
  rw [Bool.and_eq_true, Bool.and_eq_true, decide_eq_true_eq, decide_eq_true_eq, decide_eq_true_eq] at h
  exact ⟨h.1.1, h.1.2, h.2⟩
theorem cShr_ok {i j : Int} (h : cShr i j = true) : 0 ≤ j := by
  unfold cShr at h
  rw [decide_eq_true_eq] at h
  exact h
theorem scl_eq : Scl2 hEq := fun d e => by
  unfold hEq
  split
  · exact .inl ⟨_, rfl, rfl⟩
  · exact .inr rfl
theorem scl_ne : Scl2 hNe := fun d e => by
  unfold hNe
  split
  · exact .inl ⟨_, rfl, rfl⟩
  · exact .inr rfl
theorem osc_eq : OSc K (rEqD K) hEq := fun H x y d e Q hx hy h => by
  unfold hEq at h
  by_cases c : (SeqAt.shaped d && SeqAt.shaped e) = true
  · rw [if_pos c] at h
    rw [Bool.and_eq_true] at c
    exact ⟨d, e, hx.dp, hy.dp, c.1, c.2, h.2 _ (.bl _)⟩
  · rw [if_neg c] at h
    exact h.elim
theorem osc_ne : OSc K (rNeD K) hNe := fun H x y d e Q hx hy h => by
  unfold hNe at h
  by_cases c : (SeqAt.shaped d && SeqAt.shaped e) = true
  · rw [if_pos c] at h
    rw [Bool.and_eq_true] at c
    exact ⟨d, e, hx.dp, hy.dp, c.1, c.2, h.2 _ (.bl _)⟩
  · rw [if_neg c] at h
    exact h.elim
theorem scl_is : Scl2 hIs := fun d e => by cases e <;> first | exact .inr rfl | exact .inl ⟨_, rfl, rfl⟩
theorem scl_isNot : Scl2 hIsNot := fun d e => by cases e <;> first | exact .inr rfl | exact .inl ⟨_, rfl, rfl⟩
theorem osc_is : OSc K (fun x y H Q => y = .non ∧ Q (.bl (decide (x = .non))) H) hIs := fun H x y d e Q hx hy h => by
  cases hy <;> first | exact h.elim | skip
  refine ⟨rfl, h.2 _ ?_⟩
  cases hx <;> exact .bl _
theorem osc_isNot : OSc K (fun x y H Q => y = .non ∧ Q (.bl (!decide (x = .non))) H) hIsNot := fun H x y d e Q hx hy h => by
  cases hy <;> first | exact h.elim | skip
  refine ⟨rfl, h.2 _ ?_⟩
  cases hx <;> exact .bl _

/-! ### in, not in -/
def rInDT (K : PySem.W.Frag) (neg : Bool) : R2 := fun x y H Q => ∃ d e ds, Dp K H x d ∧ Dp K H y e ∧ (e = .list ds ∨ e = .tuple ds) ∧ SeqAt.shaped d = true ∧ SeqAt.shaped e = true ∧ Q (.bl (if neg then !ds.any fun z => PyData.eqv z d else ds.any fun z => PyData.eqv z d)) H
theorem room_in_any {A : Around} {d e : PyData} {ds : List PyData} (sd : SeqAt.shaped d = true) (hu : A.units + 65 < cLine) : A.units + 1 + min (PyData.depthAll ds) d.depth < cLine := by
  have h1 := SeqAt.depth_of_shaped sd
  have h2 : min (PyData.depthAll ds) d.depth ≤ d.depth := Nat.min_le_right _ _
  omega
theorem op_inDT {X : Cx} (hu : X.A.units + 65 < cLine) : OpR X (compareOp .In) (rInDT X.K false) := by
  intro pins s σ H x y v u Q I rx ry h
  obtain ⟨d, e, ds, hd, he, ee, sd, se, q⟩ := h
  obtain ⟨as, r1⟩ := Dp.reads I d x v hd rx
  obtain ⟨bs, r2⟩ := Dp.reads I e y u he ry
  rcases ee with rfl | rfl
  · exact SeqAt.in_list_reads r2 r1 (SeqAt.canLay_of_shaped se) (SeqAt.canLay_of_shaped sd) (room_in_any (e := d) sd hu) ⟨.bl _, H, I, rfl, q⟩
  · exact SeqAt.in_tuple_reads r2 r1 (SeqAt.canLay_of_shaped se) (SeqAt.canLay_of_shaped sd) (room_in_any (e := d) sd hu) ⟨.bl _, H, I, rfl, q⟩
theorem op_notInDT {X : Cx} (hu : X.A.units + 65 < cLine) : OpR X (compareOp .NotIn) (rInDT X.K true) := by
  intro pins s σ H x y v u Q I rx ry h
  obtain ⟨d, e, ds, hd, he, ee, sd, se, q⟩ := h
  obtain ⟨as, r1⟩ := Dp.reads I d x v hd rx
  obtain ⟨bs, r2⟩ := Dp.reads I e y u he ry
  rcases ee with rfl | rfl
  · exact SeqAt.notIn_list_reads r2 r1 (SeqAt.canLay_of_shaped se) (SeqAt.canLay_of_shaped sd) (room_in_any (e := d) sd hu) ⟨.bl _, H, I, rfl, q⟩
  · exact SeqAt.notIn_tuple_reads r2 r1 (SeqAt.canLay_of_shaped se) (SeqAt.canLay_of_shaped sd) (room_in_any (e := d) sd hu) ⟨.bl _, H, I, rfl, q⟩
theorem scl_in : Scl2 hIn := fun d e => by
  unfold hIn
  cases e <;> first | exact .inr rfl | (simp only; split <;> first | exact .inl ⟨_, rfl, rfl⟩ | exact .inr rfl)
theorem scl_notIn : Scl2 hNotIn := fun d e => by
  unfold hNotIn
  cases e <;> first | exact .inr rfl | (simp only; split <;> first | exact .inl ⟨_, rfl, rfl⟩ | exact .inr rfl)
theorem osc_in : OSc K (rInDT K false) hIn := fun H x y d e Q hx hy h => by
  unfold hIn at h
  cases e <;> first | exact h.elim | skip
  all_goals rename_i ds
  · simp only at h
    generalize he : (PyData.list ds : PyData) = e at h hy
    by_cases c : (SeqAt.shaped d && SeqAt.shaped e) = true
    · rw [if_pos c] at h
      rw [Bool.and_eq_true] at c
      exact ⟨d, e, ds, hx.dp, hy.dp, .inl he.symm, c.1, c.2, h.2 _ (.bl _)⟩
    · rw [if_neg c] at h
      exact h.elim
  · simp only at h
    generalize he : (PyData.tuple ds : PyData) = e at h hy
    by_cases c : (SeqAt.shaped d && SeqAt.shaped e) = true
    · rw [if_pos c] at h
      rw [Bool.and_eq_true] at c
      exact ⟨d, e, ds, hx.dp, hy.dp, .inr he.symm, c.1, c.2, h.2 _ (.bl _)⟩
    · rw [if_neg c] at h
      exact h.elim
theorem osc_notIn : OSc K (rInDT K true) hNotIn := fun H x y d e Q hx hy h => by
  unfold hNotIn at h
  cases e <;> first | exact h.elim | skip
  all_goals rename_i ds
  · simp only at h
    generalize he : (PyData.list ds : PyData) = e at h hy
    by_cases c : (SeqAt.shaped d && SeqAt.shaped e) = true
    · rw [if_pos c] at h
      rw [Bool.and_eq_true] at c
      exact ⟨d, e, ds, hx.dp, hy.dp, .inl he.symm, c.1, c.2, h.2 _ (.bl _)⟩
    · rw [if_neg c] at h
      exact h.elim
  · simp only at h
    generalize he : (PyData.tuple ds : PyData) = e at h hy
    by_cases c : (SeqAt.shaped d && SeqAt.shaped e) = true
    · rw [if_pos c] at h
      rw [Bool.and_eq_true] at c
      exact ⟨d, e, ds, hx.dp, hy.dp, .inr he.symm, c.1, c.2, h.2 _ (.bl _)⟩
    · rw [if_neg c] at h
      exact h.elim

/-! ### calls of built-ins with a scalar's answer -/
theorem Rp.lenV {F : Addr → Prop} {H : Hp} {v : V} {xs : List Dt} (h : Rp K F H v (.list xs)) : LenV K v H xs.length := by
  cases h with
  | lst h _ r => exact .inl ⟨_, .inl (.inl h), by first | exact r.length | exact r.length.symm⟩
  | fz h r => exact .inl ⟨_, h.sql, by first | exact r.length | exact r.length.symm⟩
theorem Rp.lenVt {F : Addr → Prop} {H : Hp} {v : V} {xs : List Dt} (h : Rp K F H v (.tuple xs)) : LenV K v H xs.length := by
  cases h with
  | tup h r => exact .inr ⟨_, h, by first | exact r.length | exact r.length.symm⟩
theorem csc_len : CSc K (fun xs H Q => ∃ x n, xs = [x] ∧ LenV K x H n ∧ Q (.int n) H) hLen := fun H xs ds Q hx h => by
  unfold hLen at h
  split at h
  · rename_i e
    split at e
    · cases hx with
      | cons h1 h2 =>
        cases h2
        cases e
        exact ⟨_, _, rfl, h1.lenV, h.2 _ (.int _)⟩
    · cases hx with
      | cons h1 h2 =>
        cases h2
        cases e
        exact ⟨_, _, rfl, h1.lenVt, h.2 _ (.int _)⟩
    · split at e
      · rename_i c
        cases e
        cases hx with
        | cons h1 h2 =>
          cases h2
          cases h1
          exact ⟨_, _, rfl, ⟨sz_le c, rfl⟩, h.2 _ (.int _)⟩
      · cases e
    · cases e
  · exact h.elim
theorem scl_len : SclA hLen := fun ds => by
  unfold hLen
  split
  · exact .inl ⟨_, rfl, rfl⟩
  · exact .inl ⟨_, rfl, rfl⟩
  · split
    · exact .inl ⟨_, rfl, rfl⟩
    · exact .inr rfl
  · exact .inr rfl
theorem rpInt {F : Addr → Prop} {H : Hp} {v : V} {i : Int} (h : Rp K F H v (.int i)) : v = .int i := by cases h; rfl
theorem rpBl {F : Addr → Prop} {H : Hp} {v : V} {i : Bool} (h : Rp K F H v (.bool i)) : v = .bl i := by cases h; rfl
theorem csc_min2 : CSc K (fun xs H Q => ∃ i j, xs = [.int i, .int j] ∧ Q (.int (if j < i then j else i)) H) hMin2 := fun H xs ds Q hx h => by
  unfold hMin2 at h
  split at h
  · rename_i e
    split at e
    · cases hx with
      | cons h1 h2 =>
        cases h2 with
        | cons h2 h3 =>
          cases h3
          cases e
          rw [rpInt h1, rpInt h2]
          exact ⟨_, _, rfl, h.2 _ (.int _)⟩
    · cases e
  · exact h.elim
theorem scl_min2 : SclA hMin2 := fun ds => by
  unfold hMin2
  split
  · exact .inl ⟨_, rfl, rfl⟩
  · exact .inr rfl
theorem csc_max2 : CSc K (fun xs H Q => ∃ i j, xs = [.int i, .int j] ∧ Q (.int (if j > i then j else i)) H) hMax2 := fun H xs ds Q hx h => by
  unfold hMax2 at h
  split at h
  · rename_i e
    split at e
    · cases hx with
      | cons h1 h2 =>
        cases h2 with
        | cons h2 h3 =>
          cases h3
          cases e
          rw [rpInt h1, rpInt h2]
          exact ⟨_, _, rfl, h.2 _ (.int _)⟩
    · cases e
  · exact h.elim
theorem scl_max2 : SclA hMax2 := fun ds => by
  unfold hMax2
  split
  · exact .inl ⟨_, rfl, rfl⟩
  · exact .inr rfl
def rMin3 : List V → Hp → VK → Prop := fun xs H Q => ∃ i j k, xs = [.int i, .int j, .int k] ∧ Q (.int (if j < i then (if k < j then k else j) else (if k < i then k else i))) H
theorem call_min3 {X : Cx} (hc : X.calm = true) : CallR X (.builtin "min") rMin3 := by
  intro pins s σ H xs us Q I r h
  obtain ⟨i, j, k, rfl, q⟩ := h
  cases r with
  | cons r1 r =>
    cases r with
    | cons r2 r =>
      cases r with
      | cons r3 r =>
        cases r
        obtain ⟨t1, rfl⟩ := r1
        obtain ⟨t2, rfl⟩ := r2
        obtain ⟨t3, rfl⟩ := r3
        refine min_three_ints (I.ok.hd hc) fun h' tk k => ⟨_, H, I.kept k, ?_, q⟩
        split
        · split <;> exact ⟨_, rfl⟩
        · split <;> exact ⟨_, rfl⟩
theorem csc_min3 : CSc K rMin3 hMin3 := fun H xs ds Q hx h => by
  unfold hMin3 at h
  split at h
  · rename_i e
    split at e
    · cases hx with
      | cons h1 h2 =>
        cases h2 with
        | cons h2 h3 =>
          cases h3 with
          | cons h3 h4 =>
            cases h4
            cases e
            rw [rpInt h1, rpInt h2, rpInt h3]
            exact ⟨_, _, _, rfl, h.2 _ (.int _)⟩
    · cases e
  · exact h.elim
theorem scl_min3 : SclA hMin3 := fun ds => by
  unfold hMin3
  split
  · exact .inl ⟨_, rfl, rfl⟩
  · exact .inr rfl
theorem csc_int1 : CSc K (fun xs H Q => (∃ i, xs = [.int i] ∧ Q (.int i) H) ∨ ∃ k, xs = [.bl k] ∧ Q (.int (if k then 1 else 0)) H) hInt1 := fun H xs ds Q hx h => by
  unfold hInt1 at h
  split at h
  · rename_i e
    split at e
    · cases hx with
      | cons h1 h2 =>
        cases h2
        cases e
        rw [rpInt h1]
        exact .inl ⟨_, rfl, h.2 _ (.int _)⟩
    · cases hx with
      | cons h1 h2 =>
        cases h2
        cases e
        rw [rpBl h1]
        exact .inr ⟨_, rfl, h.2 _ (.int _)⟩
    · cases e
  · exact h.elim
theorem scl_int1 : SclA hInt1 := fun ds => by
  unfold hInt1
  split
  · exact .inl ⟨_, rfl, rfl⟩
  · exact .inl ⟨_, rfl, rfl⟩
  · exact .inr rfl
theorem rp_bools {F : Addr → Prop} {H : Hp} : ∀ {xs : List V} {ds : List Dt} {bs : List Bool}, RpA K F H xs ds → allB ds = some bs → xs = bs.map V.bl
  | _, _, _, .nil, e => by cases e; rfl
  | _, _, bs, .cons (d := d) h r, e => by
    cases h <;> first | (cases e; done) | skip
    rename_i b _ _
    unfold allB at e
    cases q : allB _ with
    | none => rw [q] at e; cases e
    | some cs =>
      rw [q] at e
      cases e
      rw [rp_bools r q]
      rfl
theorem rp_ints {F : Addr → Prop} {H : Hp} : ∀ {xs : List V} {ds : List Dt} {bs : List Int}, RpA K F H xs ds → allI ds = some bs → xs = bs.map V.int
  | _, _, _, .nil, e => by cases e; rfl
  | _, _, bs, .cons (d := d) h r, e => by
    cases h <;> first | (cases e; done) | skip
    rename_i b _ _
    unfold allI at e
    cases q : allI _ with
    | none => rw [q] at e; cases e
    | some cs =>
      rw [q] at e
      cases e
      rw [rp_ints r q]
      rfl
theorem Rp.sql {F : Addr → Prop} {H : Hp} {v : V} {ds : List Dt} (h : Rp K F H v (.list ds)) : ∃ a xs, v = .ref a ∧ SqL K H a xs ∧ RpA K F H xs ds := by
  cases h with
  | lst h _ r => exact ⟨_, _, rfl, .inl (.inl h), r⟩
  | fz h r => exact ⟨_, _, rfl, h.sql, r⟩
theorem csc_all : CSc K (rAll K) hAll := fun H xs ds Q hx h => by
  unfold hAll at h
  split at h
  · rename_i e
    split at e
    · split at e
      · rename_i bs eb
        cases e
        cases hx with
        | cons h1 h2 =>
          cases h2
          obtain ⟨a, ys, rfl, hs, r⟩ := h1.sql
          rw [rp_bools r eb] at hs
          exact ⟨a, bs, rfl, hs, h.2 _ (.bl _)⟩
      · cases e
    · cases e
  · exact h.elim
theorem scl_all : SclA hAll := fun ds => by
  unfold hAll
  split
  · split
    · exact .inl ⟨_, rfl, rfl⟩
    · exact .inr rfl
  · exact .inr rfl
theorem csc_any : CSc K (rAny K) hAny := fun H xs ds Q hx h => by
  unfold hAny at h
  split at h
  · rename_i e
    split at e
    · split at e
      · rename_i bs eb
        cases e
        cases hx with
        | cons h1 h2 =>
          cases h2
          obtain ⟨a, ys, rfl, hs, r⟩ := h1.sql
          rw [rp_bools r eb] at hs
          exact ⟨a, bs, rfl, hs, h.2 _ (.bl _)⟩
      · cases e
    · cases e
  · exact h.elim
theorem scl_any : SclA hAny := fun ds => by
  unfold hAny
  split
  · split
    · exact .inl ⟨_, rfl, rfl⟩
    · exact .inr rfl
  · exact .inr rfl
theorem csc_sum : CSc K (rSum K) hSum := fun H xs ds Q hx h => by
  unfold hSum at h
  split at h
  · rename_i e
    split at e
    · split at e
      · rename_i bs eb
        cases e
        cases hx with
        | cons h1 h2 =>
          cases h2
          obtain ⟨a, ys, rfl, hs, r⟩ := h1.sql
          rw [rp_ints r eb] at hs
          exact ⟨a, bs, rfl, hs, h.2 _ (.int _)⟩
      · cases e
    · cases e
  · exact h.elim
theorem scl_sum : SclA hSum := fun ds => by
  unfold hSum
  split
  · split
    · exact .inl ⟨_, rfl, rfl⟩
    · exact .inr rfl
  · exact .inr rfl
theorem usc_bits : USc K (fun x H Q => ∃ i, x = .int i ∧ Q (.int (Builtin.Int.intBits i : Nat)) H) hBits := fun H x d Q hx h => by
  cases hx <;> first | exact h.elim | skip
  exact ⟨_, rfl, h.2 _ (.int _)⟩
theorem scl_bits : Scl1 hBits := fun d => by cases d <;> first | exact .inr rfl | exact .inl ⟨_, rfl, rfl⟩
end

/-! ### the rules -/
section
variable {X : Cx} {K : PySem.W.Frag} {W : Wt} {Δ : List Kd} {a b c e : Expr} {es : List Expr} {ta tb tc te : TE} {tt tu : TT} {tA : TA} {ga gb gc g : Gd} {gt gu : List Dt → O Bool} {gA : List Dt → O (List Dt)} {k k1 k2 : Rk} {av fr av' fr' : Bool} {pos : Pos}

theorem x_var (i : Nat) {x : Str} (hk : Δ[i]? = some (.im fr) := by rfl) (hN : X.N[i]? = some x := by rfl) (hv : Vis X.env.scope x := by first | exact Or.inl rfl | exact Or.inr (Or.inl rfl) | exact Or.inr (Or.inr rfl)) (hd : (x == ("__debug__" : Str)) = false := by decide)
    (hcd : (x == ("__classdict__" : Str)) = false := by decide) (hK : X.K = K := by rfl) : PD X K W Δ (.Name x pos) (tVar i) (.v true fr) (gVar i) := ⟨pe_var hN hv hd hcd, hK, se_var hk⟩
theorem x_own (i : Nat) {x : Str} (hk : Δ[i]? = some (.own .l fr) := by rfl) (hN : X.N[i]? = some x := by rfl) (hv : Vis X.env.scope x := by first | exact Or.inl rfl | exact Or.inr (Or.inl rfl) | exact Or.inr (Or.inr rfl)) (hd : (x == ("__debug__" : Str)) = false := by decide)
    (hcd : (x == ("__classdict__" : Str)) = false := by decide) (hK : X.K = K := by rfl) : PD X K W Δ (.Name x pos) (tVar i) (.o fr) (gVar i) := ⟨pe_var hN hv hd hcd, hK, se_own hk⟩
theorem x_int {i : Int} {j} (hK : X.K = K := by rfl) : PD X K W Δ (.Constant (.int i) j pos) (tC (.int i)) (.v true true) (gC (.int i)) := ⟨pe_int, hK, se_int⟩
theorem x_bl {i : Bool} {j} (hK : X.K = K := by rfl) : PD X K W Δ (.Constant (.bool i) j pos) (tC (.bl i)) (.v true true) (gC (.bool i)) := ⟨pe_bl, hK, se_bl⟩
theorem x_non {j} (hK : X.K = K := by rfl) : PD X K W Δ (.Constant .none j pos) (tC .non) (.v true true) (gC .none) := ⟨pe_non, hK, se_non⟩
theorem x_str {x : Str} {j} (hK : X.K = K := by rfl) : PD X K W Δ (.Constant (.str x) j pos) (tC (.str x)) (.v true true) (gC (.str x)) := ⟨pe_str, hK, se_str⟩
theorem x_glob {x : Str} {v : V} {u : Value} {d : Dt} (hm : X.mg x = some u) (r : RelV v u) (hr : Rp K (fun _ => False) (fun _ => none) v d) (s : scl d = true := by rfl) (hg : Gl X x := by rfl) (hd : (x == ("__debug__" : Str)) = false := by decide) (hK : X.K = K := by rfl) :
    PD X K W Δ (.Name x pos) (tC v) (.v true true) (gC d) := ⟨pe_glob hg hm r hd, hK, se_c hr s⟩

theorem PD.wk (h : PD X K W Δ e te (.v av fr) g) (h1 : av' = true → av = true := by decide) (h2 : fr' = true → fr = true := by decide) : PD X K W Δ e te (.v av' fr') g := ⟨h.pe, h.hK, h.se.wk h1 h2⟩
theorem PD.ov (h : PD X K W Δ e te (.o fr) g) : PD X K W Δ e te (.v false fr) g := ⟨h.pe, h.hK, h.se.ov⟩
theorem PD.nv (h : PD X K W Δ e te (.new .l fr) g) : PD X K W Δ e te (.v true fr) g := ⟨h.pe, h.hK, h.se.nv⟩
theorem PD.no (h : PD X K W Δ e te (.new .l fr) g) : PD X K W Δ e te (.o fr) g := ⟨h.pe, h.hK, h.se.no⟩
theorem PD.pur (h : PD X K W Δ e te (.v av fr) g) : PD X K W Δ e te (.v true true) (gPur g) := ⟨h.pe, h.hK, h.se.pur⟩
theorem PD.purN (h : PD X K W Δ e te (.new .l fr) g) : PD X K W Δ e te (.new .l true) (gPurN g) := ⟨h.pe, h.hK, h.se.purN⟩
theorem PD.purO (h : PD X K W Δ e te (.o fr) g) : PD X K W Δ e te (.o true) (gPurN g) := ⟨h.pe, h.hK, h.se.purO⟩

theorem x_add (ha : PD X K W Δ a ta (.v av fr) ga) (hb : PD X K W Δ b tb (.v av' fr') gb) : PD X K W Δ (.BinOp a .Add b pos) (tOp (rI0 fun i j => .int (i + j)) ta tb) (.v true true) (gOp hAdd ga gb) := ⟨pe_op op_add ha.pe hb.pe, ha.hK, se_op scl_I0 osc_I0 ha.se hb.se⟩
theorem x_sub (ha : PD X K W Δ a ta (.v av fr) ga) (hb : PD X K W Δ b tb (.v av' fr') gb) : PD X K W Δ (.BinOp a .Sub b pos) (tOp (rI0 fun i j => .int (i - j)) ta tb) (.v true true) (gOp hSub ga gb) := ⟨pe_op op_sub ha.pe hb.pe, ha.hK, se_op scl_I0 osc_I0 ha.se hb.se⟩
theorem x_mul (ha : PD X K W Δ a ta (.v av fr) ga) (hb : PD X K W Δ b tb (.v av' fr') gb) : PD X K W Δ (.BinOp a .Mult b pos) (tOp (rI CMul fun i j => .int (i * j)) ta tb) (.v true true) (gOp hMul ga gb) := ⟨pe_op op_mul ha.pe hb.pe, ha.hK, se_op scl_I (osc_I fun _ _ => cMul_ok) ha.se hb.se⟩
theorem x_div (ha : PD X K W Δ a ta (.v av fr) ga) (hb : PD X K W Δ b tb (.v av' fr') gb) : PD X K W Δ (.BinOp a .FloorDiv b pos) (tOp (rI CDivW fun i j => .int (i / j)) ta tb) (.v true true) (gOp hDiv ga gb) := ⟨pe_op op_fdivW ha.pe hb.pe, ha.hK, se_op scl_I (osc_I fun _ _ => cDiv_ok) ha.se hb.se⟩
theorem x_mod (ha : PD X K W Δ a ta (.v av fr) ga) (hb : PD X K W Δ b tb (.v av' fr') gb) : PD X K W Δ (.BinOp a .Mod b pos) (tOp (rI (fun _ j => 0 < j) fun i j => .int (i % j)) ta tb) (.v true true) (gOp hMod ga gb) := ⟨pe_op op_mod ha.pe hb.pe, ha.hK, se_op scl_I (osc_I fun _ _ => cMod_ok) ha.se hb.se⟩
theorem x_pow (ha : PD X K W Δ a ta (.v av fr) ga) (hb : PD X K W Δ b tb (.v av' fr') gb) : PD X K W Δ (.BinOp a .Pow b pos) (tOp (rI CPow fun i j => .int (i ^ j.toNat)) ta tb) (.v true true) (gOp hPow ga gb) := ⟨pe_op op_pow ha.pe hb.pe, ha.hK, se_op scl_I (osc_I fun _ _ => cPow_ok) ha.se hb.se⟩
theorem x_shr (ha : PD X K W Δ a ta (.v av fr) ga) (hb : PD X K W Δ b tb (.v av' fr') gb) : PD X K W Δ (.BinOp a .RShift b pos) (tOp (rI (fun _ j => 0 ≤ j) fun i j => .int (i / 2 ^ j.toNat)) ta tb) (.v true true) (gOp hShr ga gb) := ⟨pe_op op_shr ha.pe hb.pe, ha.hK, se_op scl_I (osc_I fun _ _ => cShr_ok) ha.se hb.se⟩
theorem x_band (ha : PD X K W Δ a ta (.v av fr) ga) (hb : PD X K W Δ b tb (.v av' fr') gb) : PD X K W Δ (.BinOp a .BitAnd b pos) (tOp (rI0 fun i j => .int (Builtin.bitAnd i j)) ta tb) (.v true true) (gOp hBand ga gb) := ⟨pe_op op_and ha.pe hb.pe, ha.hK, se_op scl_I0 osc_I0 ha.se hb.se⟩
theorem x_neg (ha : PD X K W Δ a ta (.v av fr) ga) : PD X K W Δ (.UnaryOp .USub a pos) (tUn (rU fun i => .int (-i)) ta) (.v true true) (gUn (hU fun i => -i) ga) := ⟨pe_un un_neg ha.pe, ha.hK, se_un scl_U usc_U ha.se⟩
theorem x_bits {apos : Pos} (ha : PD X K W Δ a ta (.v av fr) ga) (hbase : attributeBase a "bit_length" X.env (eval a X.env) = eval a X.env := by rfl) (hline : (apos.endLine == pos.line) = true := by rfl) :
    PD X K W Δ (.Call (.Attribute a "bit_length" apos) [] [] pos) (tBits ta) (.v true true) (gUn hBits ga) := ⟨pe_bits ha.pe hbase hline, ha.hK, se_un scl_bits usc_bits ha.se⟩

theorem x_lt (ha : PD X K W Δ a ta (.v av fr) ga) (hb : PD X K W Δ b tb (.v av' fr') gb) : PD X K W Δ (.Compare a [.Lt] [b] pos) (tOp (rI0 fun i j => .bl (decide (i < j))) ta tb) (.v true true) (gOp hLt ga gb) := ⟨pe_cmpR op_lt ha.pe hb.pe (nobehind _ (by decide) (by decide)), ha.hK, se_op scl_B0 osc_B0 ha.se hb.se⟩
theorem x_le (ha : PD X K W Δ a ta (.v av fr) ga) (hb : PD X K W Δ b tb (.v av' fr') gb) : PD X K W Δ (.Compare a [.LtE] [b] pos) (tOp (rI0 fun i j => .bl (decide (i ≤ j))) ta tb) (.v true true) (gOp hLe ga gb) := ⟨pe_cmpR op_le ha.pe hb.pe (nobehind _ (by decide) (by decide)), ha.hK, se_op scl_B0 osc_B0 ha.se hb.se⟩
theorem x_gt (ha : PD X K W Δ a ta (.v av fr) ga) (hb : PD X K W Δ b tb (.v av' fr') gb) : PD X K W Δ (.Compare a [.Gt] [b] pos) (tOp (rI0 fun i j => .bl (decide (j < i))) ta tb) (.v true true) (gOp hGt ga gb) := ⟨pe_cmpR op_gt ha.pe hb.pe (nobehind _ (by decide) (by decide)), ha.hK, se_op scl_B0 osc_B0 ha.se hb.se⟩
theorem x_ge (ha : PD X K W Δ a ta (.v av fr) ga) (hb : PD X K W Δ b tb (.v av' fr') gb) : PD X K W Δ (.Compare a [.GtE] [b] pos) (tOp (rI0 fun i j => .bl (decide (j ≤ i))) ta tb) (.v true true) (gOp hGe ga gb) := ⟨pe_cmpR op_ge ha.pe hb.pe (nobehind _ (by decide) (by decide)), ha.hK, se_op scl_B0 osc_B0 ha.se hb.se⟩
theorem x_eq {n : Nat} (hr : Room n X.A) (ha : PD X K W Δ a ta (.v av fr) ga) (hb : PD X K W Δ b tb (.v av' fr') gb) : PD X K W Δ (.Compare a [.Eq] [b] pos) (tOp (rEqD K) ta tb) (.v true true) (gOp hEq ga gb) :=
  ⟨pe_cmpR (by have q := op_eqD (X := X) (by have := hr.un; omega); rw [ha.hK] at q; exact q) ha.pe hb.pe (nobehind _ (by decide) (by decide)), ha.hK, se_op scl_eq osc_eq ha.se hb.se⟩
theorem x_ne {n : Nat} (hr : Room n X.A) (ha : PD X K W Δ a ta (.v av fr) ga) (hb : PD X K W Δ b tb (.v av' fr') gb) : PD X K W Δ (.Compare a [.NotEq] [b] pos) (tOp (rNeD K) ta tb) (.v true true) (gOp hNe ga gb) :=
  ⟨pe_cmpR (by have q := op_neD (X := X) (by have := hr.un; omega); rw [ha.hK] at q; exact q) ha.pe hb.pe (nobehind _ (by decide) (by decide)), ha.hK, se_op scl_ne osc_ne ha.se hb.se⟩
theorem x_in {n : Nat} (hr : Room n X.A) (ha : PD X K W Δ a ta (.v av fr) ga) (hb : PD X K W Δ b tb (.v av' fr') gb) (hm : behindInMarks .In b = false := by rfl) : PD X K W Δ (.Compare a [.In] [b] pos) (tOp (rInDT K false) ta tb) (.v true true) (gOp hIn ga gb) :=
  ⟨pe_cmpR (by have q := op_inDT (X := X) (by have := hr.un; omega); rw [ha.hK] at q; exact q) ha.pe hb.pe hm, ha.hK, se_op scl_in osc_in ha.se hb.se⟩
theorem x_notIn {n : Nat} (hr : Room n X.A) (ha : PD X K W Δ a ta (.v av fr) ga) (hb : PD X K W Δ b tb (.v av' fr') gb) (hm : behindInMarks .NotIn b = false := by rfl) : PD X K W Δ (.Compare a [.NotIn] [b] pos) (tOp (rInDT K true) ta tb) (.v true true) (gOp hNotIn ga gb) :=
  ⟨pe_cmpR (by have q := op_notInDT (X := X) (by have := hr.un; omega); rw [ha.hK] at q; exact q) ha.pe hb.pe hm, ha.hK, se_op scl_notIn osc_notIn ha.se hb.se⟩
theorem x_isN (ha : PD X K W Δ a ta (.v av fr) ga) (hb : PD X K W Δ b tb (.v av' fr') gb) : PD X K W Δ (.Compare a [.Is] [b] pos) (tOp (fun x y H Q => y = .non ∧ Q (.bl (decide (x = .non))) H) ta tb) (.v true true) (gOp hIs ga gb) := ⟨pe_cmpR op_isN ha.pe hb.pe (nobehind _ (by decide) (by decide)), ha.hK, se_op scl_is osc_is ha.se hb.se⟩
theorem x_notN (ha : PD X K W Δ a ta (.v av fr) ga) (hb : PD X K W Δ b tb (.v av' fr') gb) : PD X K W Δ (.Compare a [.IsNot] [b] pos) (tOp (fun x y H Q => y = .non ∧ Q (.bl (!decide (x = .non))) H) ta tb) (.v true true) (gOp hIsNot ga gb) := ⟨pe_cmpR op_notN ha.pe hb.pe (nobehind _ (by decide) (by decide)), ha.hK, se_op scl_isNot osc_isNot ha.se hb.se⟩

/-! tests -/
theorem c_val (h : PD X K W Δ e te (.v av fr) g) (he : ∀ whole, isTrue e X.env whole = (do let v ← whole; standAt e.pos; holding [v] (truthy v)) := by intro _; rfl) : TD X K W Δ e (tB te) (gTest g) := ⟨pt_val h.pe he, h.hK, st_B h.se⟩
theorem c_not (h : TD X K W Δ a tt gt) : TD X K W Δ (.UnaryOp .Not a pos) (tNot tt) (gNot gt) := ⟨pt_not h.pt, h.hK, st_not h.st⟩
theorem w_and1 (h : TD X K W Δ a tt gt) : WD X K W Δ (.BoolOp .And [a] pos) tt gt := ⟨pw_and1 h.pt, h.hK, h.st⟩
theorem w_or1 (h : TD X K W Δ a tt gt) : WD X K W Δ (.BoolOp .Or [a] pos) tt gt := ⟨pw_or1 h.pt, h.hK, h.st⟩
theorem w_and (h : TD X K W Δ a tt gt) (h2 : WD X K W Δ (.BoolOp .And (b :: es) pos) tu gu) : WD X K W Δ (.BoolOp .And (a :: b :: es) pos) (tAnd tt tu) (gAnd gt gu) := ⟨pw_and h.pt h2.pw, h.hK, st_and h.st h2.st⟩
theorem w_or (h : TD X K W Δ a tt gt) (h2 : WD X K W Δ (.BoolOp .Or (b :: es) pos) tu gu) : WD X K W Δ (.BoolOp .Or (a :: b :: es) pos) (tOr tt tu) (gOr gt gu) := ⟨pw_or h.pt h2.pw, h.hK, st_or h.st h2.st⟩
theorem c_w (h : WD X K W Δ e tt gt) : TD X K W Δ e tt gt := ⟨h.pw.pt, h.hK, h.st⟩
theorem x_ifE (h : TD X K W Δ c tt gt) (ha : PD X K W Δ a ta k ga) (hb : PD X K W Δ b tb k gb) : PD X K W Δ (.IfExp c a b pos) (tIf tt ta tb) k (gIf gt ga gb) := ⟨pe_ifExp h.pt ha.pe hb.pe, h.hK, se_if h.st ha.se hb.se⟩
theorem x_one {op} (h : PD X K W Δ a ta k ga) : PD X K W Δ (.BoolOp op [a] pos) ta k ga := ⟨pe_one h.pe, h.hK, h.se⟩
theorem x_and (ha : PD X K W Δ a ta (.v av fr) ga) (hb : PD X K W Δ (.BoolOp .And (b :: es) pos) tb (.v true true) gb) : PD X K W Δ (.BoolOp .And (a :: b :: es) pos) (tAndV ta tb) (.v true true) (gAndV ga gb) := ⟨pe_and ha.pe hb.pe, ha.hK, se_andV ha.se hb.se⟩
theorem x_or (ha : PD X K W Δ a ta (.v av fr) ga) (hb : PD X K W Δ (.BoolOp .Or (b :: es) pos) tb (.v true true) gb) : PD X K W Δ (.BoolOp .Or (a :: b :: es) pos) (tOrV ta tb) (.v true true) (gOrV ga gb) := ⟨pe_or ha.pe hb.pe, ha.hK, se_orV ha.se hb.se⟩
theorem x_not (ha : PD X K W Δ a ta (.v av fr) ga) : PD X K W Δ (.UnaryOp .Not a pos) (tNotV ta) (.v true true) (gNotV ga) := ⟨pe_not ha.pe, ha.hK, se_notV ha.se⟩

/-! argument lists, displays -/
theorem a_nil (hK : X.K = K := by rfl) : AD X K W Δ [] tNil true true gNil := ⟨pa_nil, hK, sa_nil⟩
theorem a_cons (ha : PD X K W Δ a ta (.v av fr) ga) (hr : AD X K W Δ es tA av' fr' gA) (hs : starEach (a :: es) X.env = (false, eval a X.env) :: starEach es X.env := by rfl) : AD X K W Δ (a :: es) (tCons ta tA) (av && av') (fr && fr') (gCons ga gA) := ⟨pa_cons ha.pe hr.pa hs, ha.hK, sa_cons ha.se hr.sa⟩
theorem AD.wk (h : AD X K W Δ es tA av fr gA) (h1 : av' = true → av = true := by decide) (h2 : fr' = true → fr = true := by decide) : AD X K W Δ es tA av' fr' gA := ⟨h.pa, h.hK, h.sa.wk h1 h2⟩
theorem x_tup {x1} (h : AD X K W Δ es tA av fr gA) : PD X K W Δ (.Tuple es x1 pos) (tTup tA) (.v av fr) (gTup gA) := ⟨pe_tup h.pa, h.hK, se_tup h.sa⟩
theorem x_lst (h : AD X K W Δ es tA true fr gA) : PD X K W Δ (.List es pos) (tLst tA) (.new .l fr) (gLst gA) := ⟨pe_lst h.pa, h.hK, se_lst h.sa⟩
theorem x_lstv (h : AD X K W Δ es tA av fr gA) : PD X K W Δ (.List es pos) (tLst tA) (.v av fr) (gLst gA) := ⟨pe_lst h.pa, h.hK, se_lstv h.sa⟩

/-! calls of built-ins -/
theorem x_len {x : Str} {p : Pos} (hm : X.mg x = none) (h : AD X K W Δ (e :: es) tA av fr gA) (hv : bootBuiltins x = some (.builtin "len") := by decide +kernel) (hg : Gl X x := by rfl) (hn : x ≠ "__name__" := by decide) (hdb : (x == ("__debug__" : Str)) = false := by decide)
    (he : starEach (e :: es) X.env = (false, eval e X.env) :: starEach es X.env := by rfl) (hpl : (backTo pos (starEach es X.env)).any (·.1) = false := by rfl) :
    PD X K W Δ (.Call (.Name x p) (e :: es) [] pos) (tCB (fun xs H Q => ∃ x n, xs = [x] ∧ LenV K x H n ∧ Q (.int n) H) tA) (.v true true) (gCB hLen gA) :=
  ⟨pe_callB (by have q := call_len (X := X); rw [h.hK] at q; exact q) hg hm hv h.pa hn hdb he hpl, h.hK, se_cb scl_len csc_len h.sa⟩
theorem x_min2 {x : Str} {p : Pos} (hm : X.mg x = none) (h : AD X K W Δ (e :: es) tA av fr gA) (hc : X.calm = true := by rfl) (hv : bootBuiltins x = some (.builtin "min") := by decide +kernel) (hg : Gl X x := by rfl) (hn : x ≠ "__name__" := by decide) (hdb : (x == ("__debug__" : Str)) = false := by decide)
    (he : starEach (e :: es) X.env = (false, eval e X.env) :: starEach es X.env := by rfl) (hpl : (backTo pos (starEach es X.env)).any (·.1) = false := by rfl) :
    PD X K W Δ (.Call (.Name x p) (e :: es) [] pos) (tCB (fun xs H Q => ∃ i j, xs = [.int i, .int j] ∧ Q (.int (if j < i then j else i)) H) tA) (.v true true) (gCB hMin2 gA) := ⟨pe_callB (call_min2 hc) hg hm hv h.pa hn hdb he hpl, h.hK, se_cb scl_min2 csc_min2 h.sa⟩
theorem x_max2 {x : Str} {p : Pos} (hm : X.mg x = none) (h : AD X K W Δ (e :: es) tA av fr gA) (hc : X.calm = true := by rfl) (hv : bootBuiltins x = some (.builtin "max") := by decide +kernel) (hg : Gl X x := by rfl) (hn : x ≠ "__name__" := by decide) (hdb : (x == ("__debug__" : Str)) = false := by decide)
    (he : starEach (e :: es) X.env = (false, eval e X.env) :: starEach es X.env := by rfl) (hpl : (backTo pos (starEach es X.env)).any (·.1) = false := by rfl) :
    PD X K W Δ (.Call (.Name x p) (e :: es) [] pos) (tCB (fun xs H Q => ∃ i j, xs = [.int i, .int j] ∧ Q (.int (if j > i then j else i)) H) tA) (.v true true) (gCB hMax2 gA) := ⟨pe_callB (call_max2 hc) hg hm hv h.pa hn hdb he hpl, h.hK, se_cb scl_max2 csc_max2 h.sa⟩
theorem x_min3 {x : Str} {p : Pos} (hm : X.mg x = none) (h : AD X K W Δ (e :: es) tA av fr gA) (hc : X.calm = true := by rfl) (hv : bootBuiltins x = some (.builtin "min") := by decide +kernel) (hg : Gl X x := by rfl) (hn : x ≠ "__name__" := by decide) (hdb : (x == ("__debug__" : Str)) = false := by decide)
    (he : starEach (e :: es) X.env = (false, eval e X.env) :: starEach es X.env := by rfl) (hpl : (backTo pos (starEach es X.env)).any (·.1) = false := by rfl) :
    PD X K W Δ (.Call (.Name x p) (e :: es) [] pos) (tCB rMin3 tA) (.v true true) (gCB hMin3 gA) := ⟨pe_callB (call_min3 hc) hg hm hv h.pa hn hdb he hpl, h.hK, se_cb scl_min3 csc_min3 h.sa⟩
theorem x_int1 {x : Str} {p : Pos} (hm : X.mg x = none) (h : AD X K W Δ (e :: es) tA av fr gA) (hv : bootBuiltins x = some (.type "int") := by decide +kernel) (hg : Gl X x := by rfl) (hn : x ≠ "__name__" := by decide) (hdb : (x == ("__debug__" : Str)) = false := by decide)
    (he : starEach (e :: es) X.env = (false, eval e X.env) :: starEach es X.env := by rfl) (hpl : (backTo pos (starEach es X.env)).any (·.1) = false := by rfl) :
    PD X K W Δ (.Call (.Name x p) (e :: es) [] pos) (tCB (fun xs H Q => (∃ i, xs = [.int i] ∧ Q (.int i) H) ∨ ∃ k, xs = [.bl k] ∧ Q (.int (if k then 1 else 0)) H) tA) (.v true true) (gCB hInt1 gA) := ⟨pe_callTy call_int1 hg hm hv h.pa hn hdb he hpl, h.hK, se_cb scl_int1 csc_int1 h.sa⟩
theorem x_all {x : Str} {p : Pos} (hm : X.mg x = none) (h : AD X K W Δ (e :: es) tA av fr gA) (hc : X.calm = true := by rfl) (hv : bootBuiltins x = some (.builtin "all") := by decide +kernel) (hg : Gl X x := by rfl) (hn : x ≠ "__name__" := by decide) (hdb : (x == ("__debug__" : Str)) = false := by decide)
    (he : starEach (e :: es) X.env = (false, eval e X.env) :: starEach es X.env := by rfl) (hpl : (backTo pos (starEach es X.env)).any (·.1) = false := by rfl) :
    PD X K W Δ (.Call (.Name x p) (e :: es) [] pos) (tCB (rAll K) tA) (.v true true) (gCB hAll gA) := ⟨pe_callB (by have q := cr_all (X := X) hc; rw [h.hK] at q; exact q) hg hm hv h.pa hn hdb he hpl, h.hK, se_cb scl_all csc_all h.sa⟩
theorem x_any {x : Str} {p : Pos} (hm : X.mg x = none) (h : AD X K W Δ (e :: es) tA av fr gA) (hc : X.calm = true := by rfl) (hv : bootBuiltins x = some (.builtin "any") := by decide +kernel) (hg : Gl X x := by rfl) (hn : x ≠ "__name__" := by decide) (hdb : (x == ("__debug__" : Str)) = false := by decide)
    (he : starEach (e :: es) X.env = (false, eval e X.env) :: starEach es X.env := by rfl) (hpl : (backTo pos (starEach es X.env)).any (·.1) = false := by rfl) :
    PD X K W Δ (.Call (.Name x p) (e :: es) [] pos) (tCB (rAny K) tA) (.v true true) (gCB hAny gA) := ⟨pe_callB (by have q := cr_any (X := X) hc; rw [h.hK] at q; exact q) hg hm hv h.pa hn hdb he hpl, h.hK, se_cb scl_any csc_any h.sa⟩
theorem x_sum {x : Str} {p : Pos} (hm : X.mg x = none) (h : AD X K W Δ (e :: es) tA av fr gA) (hc : X.calm = true := by rfl) (hv : bootBuiltins x = some (.builtin "sum") := by decide +kernel) (hg : Gl X x := by rfl) (hn : x ≠ "__name__" := by decide) (hdb : (x == ("__debug__" : Str)) = false := by decide)
    (he : starEach (e :: es) X.env = (false, eval e X.env) :: starEach es X.env := by rfl) (hpl : (backTo pos (starEach es X.env)).any (·.1) = false := by rfl) :
    PD X K W Δ (.Call (.Name x p) (e :: es) [] pos) (tCB (rSum K) tA) (.v true true) (gCB hSum gA) := ⟨pe_callB (by have q := cr_sum (X := X) hc; rw [h.hK] at q; exact q) hg hm hv h.pa hn hdb he hpl, h.hK, se_cb scl_sum csc_sum h.sa⟩
end
end Sim
end T_SimC

section T_SimD
set_option Elab.async false
set_option linter.all false
set_option maxRecDepth 100000
/-! SimD: subscripts, slices, list + list, walks, targets, comprehensions. -/
namespace Sim
open PySem PySem.Spec L2
open PyProof.Rows hiding St

/-! ### lists that are laid anew -/
def cutD (xs : List Dt) (lo hi : Option Int) : List Dt := (xs.drop (HT.sIx xs.length 0 lo)).take (HT.sIx xs.length xs.length hi - HT.sIx xs.length 0 lo)
def hIx : Dt → Dt → O Dt := fun d e => match d, e with
  | .list ds, .int i => match atI ds i with
    | some z => .ok z
    | none => .bad
  | .tuple ds, .int i => match atI ds i with
    | some z => .ok z
    | none => .bad
  | .str z, .int i => if z.length ≤ 100000 then (match atI z.cps.toList i with
    | some c => .ok (.str ⟨#[c]⟩)
    | none => .bad) else .bad
  | _, _ => .bad
def hSl : Dt → Option Int → Option Int → O Dt := fun d lo hi => match d with
  | .list ds => .ok (.list (cutD ds lo hi))
  | _ => .bad
def hSlT : Dt → Option Int → Option Int → O Dt := fun d lo hi => match d with
  | .tuple ds => .ok (.tuple (cutD ds lo hi))
  | _ => .bad
def gSl (h : Dt → Option Int → Option Int → O Dt) (g : Gd) (gl gh : List Dt → O (Option Int)) : Gd := fun ρ => bnd (g ρ) fun d => bnd (gl ρ) fun lo => bnd (gh ρ) fun hi => h d lo hi
def gNoPart : List Dt → O (Option Int) := fun _ => .ok none
def gPart (g : Gd) : List Dt → O (Option Int) := fun ρ => bnd (g ρ) fun d => match d with
  | .int i => .ok (some i)
  | _ => .bad
def hCat : Dt → Dt → O Dt := fun d e => match d, e with
  | .list xs, .list ys => if xs.length + ys.length ≤ 100000 then .ok (.list (xs ++ ys)) else .bad
  | _, _ => .bad
def hRep : Dt → Dt → O Dt := fun d e => match d, e with
  | .list xs, .int k => if -(2 ^ 63) ≤ k ∧ k < 2 ^ 63 ∧ xs.length * k.toNat ≤ 100000 then .ok (.list (List.replicate k.toNat xs).flatten) else .bad
  | _, _ => .bad
def hListOf : Dt → O Dt := fun d => match d with
  | .list xs => .ok (.list xs)
  | .tuple xs => .ok (.list xs)
  | _ => .bad
def hTupOf : Dt → O Dt := fun d => match d with
  | .list xs => .ok (.tuple xs)
  | .tuple xs => .ok (.tuple xs)
  | _ => .bad
def isort (ns : List Int) : List Int := ns.mergeSort fun a b => decide (a ≤ b)
def hSorted : Dt → O Dt := fun d => match d with
  | .list xs => match allI xs with
    | some ns => .ok (.list ((isort ns).map .int))
    | none => .bad
  | _ => .bad
def one (h : Dt → O Dt) : List Dt → O Dt := fun ds => match ds with
  | [d] => h d
  | _ => .bad

section
variable {K : PySem.W.Frag} {W : Wt} {Δ : List Kd} {F : Addr → Prop} {H : Hp}

theorem RpA.ixN {vs : List V} {ds : List Dt} {i : Int} {z : Dt} (r : RpA K F H vs ds) (h : atI ds i = some z) : ∃ v, atI vs i = some v ∧ Rp K F H v z := by
  unfold atI at h ⊢
  rw [r.length]
  cases e : L2.ixN ds.length i with
  | none => rw [e] at h; cases h
  | some j =>
    rw [e] at h
    exact r.get' h
theorem Rp.sqt {v : V} {ds : List Dt} (h : Rp K F H v (.tuple ds)) : ∃ a xs, v = .ref a ∧ SqT K H a xs ∧ RpA K F H xs ds := by
  cases h with
  | tup h r => exact ⟨_, _, rfl, h, r⟩
theorem RpA.cut {vs : List V} {ds : List Dt} {lo hi : Option Int} (r : RpA K F H vs ds) : RpA K F H (cutV vs lo hi) (cutD ds lo hi) := by
  unfold cutV cutD
  rw [r.length]
  exact (r.drop _).take _

/-! ### x[i] -/
theorem se_ix {ta tb : TE} {ga gb : Gd} {av fr av' fr' : Bool} (ha : SE K W Δ ta (.v av fr) ga) (hb : SE K W Δ tb (.v av' fr') gb) : SE K W Δ (tOp (rIx K) ta tb) (.v av fr) (gOp hIx ga gb) := fun f ρ σ H Q R q => by
  refine ha f ρ σ H _ R ?_
  unfold gOp at q
  cases e1 : ga ρ with
  | bad => rw [e1] at q; exact q
  | ex z => rw [e1] at q; exact q
  | ok d =>
    rw [e1, bnd_ok] at q
    intro v H1 s1 x1
    refine hb f ρ σ H1 _ (R.mono s1) ?_
    cases e2 : gb ρ with
    | bad => rw [e2] at q; exact q
    | ex z => rw [e2] at q; exact fun H' s => q H' (s1.trans s)
    | ok d2 =>
      rw [e2, bnd_ok] at q
      intro v2 H2 s2 x2
      unfold hIx at q
      split at q
      · split at q
        · rename_i z hz
          obtain ⟨a, xs, rfl, hs, r⟩ := (x1.same s2).sql
          obtain ⟨w, hw, rw'⟩ := r.ixN hz
          rw [rpInt x2]
          exact .inl ⟨a, xs, _, w, rfl, rfl, hs, hw, q w H2 (s1.trans s2) rw'⟩
        · exact q.elim
      · split at q
        · rename_i z hz
          obtain ⟨a, xs, rfl, hs, r⟩ := (x1.same s2).sqt
          obtain ⟨w, hw, rw'⟩ := r.ixN hz
          rw [rpInt x2]
          exact .inr (.inl ⟨a, xs, _, w, rfl, rfl, hs, hw, q w H2 (s1.trans s2) rw'⟩)
        · exact q.elim
      · split at q
        · rename_i hl
          split at q
          · rename_i c hc
            rw [rpInt x2]
            cases x1
            exact .inr (.inr ⟨_, _, c, rfl, rfl, sz_le hl, hc, q _ H2 (s1.trans s2) (.str _)⟩)
          · exact q.elim
        · exact q.elim
      · exact q.elim
theorem se_ixO {ta tb : TE} {ga gb : Gd} {fr av' fr' : Bool} (ha : SE K W Δ ta (.o fr) ga) (hb : SE K W Δ tb (.v av' fr') gb) : SE K W Δ (tOp (rIx K) ta tb) (.v true fr) (gOp hIx ga gb) := fun f ρ σ H Q R q => by
  refine ha f ρ σ H _ R ?_
  unfold gOp at q
  cases e1 : ga ρ with
  | bad => rw [e1] at q; exact q
  | ex z => rw [e1] at q; exact q
  | ok d =>
    rw [e1, bnd_ok] at q
    intro p H1 vs ds ed s1 hp gp x1
    subst ed
    refine hb f ρ σ H1 _ (R.mono s1) ?_
    cases e2 : gb ρ with
    | bad => rw [e2] at q; exact q
    | ex z => rw [e2] at q; exact fun H' s => q H' (s1.trans s)
    | ok d2 =>
      rw [e2, bnd_ok] at q
      intro v2 H2 s2 x2
      unfold hIx at q
      cases d2 with
      | int i =>
        simp only at q
        cases hz : atI ds i with
        | some z =>
          rw [hz] at q
          obtain ⟨w, hw, rw'⟩ := (x1.same s2).ixN hz
          rw [rpInt x2]
          exact .inl ⟨p, vs, _, w, rfl, rfl, .inl (.inl (s2 _ _ hp)), hw, q w H2 (s1.trans s2) rw'⟩
        | none => rw [hz] at q; exact q.elim
      | _ => exact q.elim

/-! ### slices -/
abbrev TOp := L2.St → Hp → (Option Int → Hp → Prop) → Prop
def SO (K : PySem.W.Frag) (W : Wt) (Δ : List Kd) (to : TOp) (g : List Dt → O (Option Int)) : Prop := ∀ f ρ σ H Q, R K f Δ ρ σ H →
  (match g ρ with | .bad => False | .ex e => ∀ H', Same H H' → W e σ H' | .ok o => ∀ H', Same H H' → Q o H') → to σ H Q
theorem so_none : SO K W Δ tNoPart gNoPart := fun f ρ σ H Q R q => q H (Same.refl H)
theorem so_some {te : TE} {g : Gd} {av fr : Bool} (h : SE K W Δ te (.v av fr) g) : SO K W Δ (tPart te) (gPart g) := fun f ρ σ H Q R q => by
  refine h f ρ σ H _ R ?_
  unfold gPart at q
  cases e1 : g ρ with
  | bad => rw [e1] at q; exact q
  | ex z => rw [e1] at q; exact q
  | ok d =>
    rw [e1, bnd_ok] at q
    intro v H1 s1 x1
    cases d with
    | int i => rw [rpInt x1]; exact ⟨i, rfl, q H1 s1⟩
    | _ => exact q.elim
theorem se_sl {te : TE} {tl th : TOp} {g : Gd} {gl gh : List Dt → O (Option Int)} {fr : Bool} (h : SE K W Δ te (.v true fr) g) (h1 : SO K W Δ tl gl) (h2 : SO K W Δ th gh) : SE K W Δ (tSl (rSlL K) te tl th) (.new .l fr) (gSl hSl g gl gh) := fun f ρ σ H Q R q => by
  refine h f ρ σ H _ R ?_
  unfold gSl at q
  cases e1 : g ρ with
  | bad => rw [e1] at q; exact q
  | ex z => rw [e1] at q; exact q
  | ok d =>
    rw [e1, bnd_ok] at q
    intro v H1 s1 x1
    refine h1 f ρ σ H1 _ (R.mono s1) ?_
    cases e2 : gl ρ with
    | bad => rw [e2] at q; exact q
    | ex z => rw [e2] at q; exact fun H' s => q H' (s1.trans s)
    | ok lo =>
      rw [e2, bnd_ok] at q
      intro H2 s2
      refine h2 f ρ σ H2 _ ((R.mono s1).mono s2) ?_
      cases e3 : gh ρ with
      | bad => rw [e3] at q; exact q
      | ex z => rw [e3] at q; exact fun H' s => q H' ((s1.trans s2).trans s)
      | ok hi =>
        rw [e3, bnd_ok] at q
        intro H3 s3
        cases d with
        | list ds =>
          obtain ⟨a, xs, rfl, hs, r⟩ := (x1.same (s2.trans s3)).sql
          refine ⟨a, xs, rfl, hs, fun p np => ?_⟩
          have s123 := (s1.trans s2).trans s3
          exact q p _ (s123.free np) (s123.trans (same_upd np)) ⟨_, _, rfl, upd_same, (r.mono (same_upd np) fun a y z => ⟨y, fun e => z (e ▸ np)⟩).cut⟩
        | _ => exact q.elim
theorem se_slO {te : TE} {tl th : TOp} {g : Gd} {gl gh : List Dt → O (Option Int)} {fr : Bool} (h : SE K W Δ te (.o fr) g) (h1 : SO K W Δ tl gl) (h2 : SO K W Δ th gh) : SE K W Δ (tSl (rSlL K) te tl th) (.new .l fr) (gSl hSl g gl gh) := fun f ρ σ H Q R q => by
  refine h f ρ σ H _ R ?_
  unfold gSl at q
  cases e1 : g ρ with
  | bad => rw [e1] at q; exact q
  | ex z => rw [e1] at q; exact q
  | ok d =>
    rw [e1, bnd_ok] at q
    intro pp H1 vs ds ed s1 hp gp x1
    subst ed
    refine h1 f ρ σ H1 _ (R.mono s1) ?_
    cases e2 : gl ρ with
    | bad => rw [e2] at q; exact q
    | ex z => rw [e2] at q; exact fun H' s => q H' (s1.trans s)
    | ok lo =>
      rw [e2, bnd_ok] at q
      intro H2 s2
      refine h2 f ρ σ H2 _ ((R.mono s1).mono s2) ?_
      cases e3 : gh ρ with
      | bad => rw [e3] at q; exact q
      | ex z => rw [e3] at q; exact fun H' s => q H' ((s1.trans s2).trans s)
      | ok hi =>
        rw [e3, bnd_ok] at q
        intro H3 s3
        refine ⟨pp, vs, rfl, .inl (.inl (s3 _ _ (s2 _ _ hp))), fun p np => ?_⟩
        have s123 := (s1.trans s2).trans s3
        exact q p _ (s123.free np) (s123.trans (same_upd np)) ⟨_, _, rfl, upd_same, ((x1.same (s2.trans s3)).mono (same_upd np) fun a y z => ⟨y, fun e => z (e ▸ np)⟩).cut⟩
theorem cut_whole {α : Type} {n : Nat} {xs : List α} (hn : xs.length = n) {lo hi : Option Int} (h : HT.sIx n 0 lo = 0 ∧ HT.sIx n n hi = n) : (xs.drop (HT.sIx n 0 lo)).take (HT.sIx n n hi - HT.sIx n 0 lo) = xs := by
  rw [h.1, h.2, List.drop_zero, Nat.sub_zero]
  exact List.take_of_length_le (Nat.le_of_eq hn)
theorem se_slT {te : TE} {tl th : TOp} {g : Gd} {gl gh : List Dt → O (Option Int)} {av fr : Bool} (h : SE K W Δ te (.v av fr) g) (h1 : SO K W Δ tl gl) (h2 : SO K W Δ th gh) : SE K W Δ (tSl (rSlA K) te tl th) (.v av fr) (gSl hSlT g gl gh) := fun f ρ σ H Q R q => by
  refine h f ρ σ H _ R ?_
  unfold gSl at q
  cases e1 : g ρ with
  | bad => rw [e1] at q; exact q
  | ex z => rw [e1] at q; exact q
  | ok d =>
    rw [e1, bnd_ok] at q
    intro v H1 s1 x1
    refine h1 f ρ σ H1 _ (R.mono s1) ?_
    cases e2 : gl ρ with
    | bad => rw [e2] at q; exact q
    | ex z => rw [e2] at q; exact fun H' s => q H' (s1.trans s)
    | ok lo =>
      rw [e2, bnd_ok] at q
      intro H2 s2
      refine h2 f ρ σ H2 _ ((R.mono s1).mono s2) ?_
      cases e3 : gh ρ with
      | bad => rw [e3] at q; exact q
      | ex z => rw [e3] at q; exact fun H' s => q H' ((s1.trans s2).trans s)
      | ok hi =>
        rw [e3, bnd_ok] at q
        intro H3 s3
        cases d with
        | tuple ds =>
          obtain ⟨a, xs, rfl, hs, r⟩ := (x1.same (s2.trans s3)).sqt
          have s123 := (s1.trans s2).trans s3
          refine ⟨a, xs, rfl, hs, fun w => ?_, fun w p np => ?_⟩
          · refine q _ H3 s123 ?_
            have e : cutD ds lo hi = ds := by
              unfold cutD
              rw [← r.length]
              exact cut_whole (by rw [r.length]) w
            rw [e]
            exact .tup hs r
          · exact q _ _ (s123.trans (same_upd np)) (.tup (.inl (.inl upd_same)) (r.same (same_upd np)).cut)
        | _ => exact q.elim

/-! ### list + list, list * int, list(x), tuple(x), sorted -/
def rCatS (K : PySem.W.Frag) : R2 := fun x y H Q => ∃ l b xs zs, x = .ref l ∧ y = .ref b ∧ SqL K H l xs ∧ SqL K H b zs ∧ xs.length + zs.length ≤ sizeLine ∧ ∀ p, H p = none → Q (.ref p) (upd H p (.lst (xs ++ zs)))
theorem op_catS {X : Cx} : OpR X (binaryOp .Add) (rCatS X.K) := by
  intro pins s σ H x y v u Q I rx ry h
  obtain ⟨l, b, xs, zs, rfl, rfl, hH, hB, hz, q⟩ := h
  cases rx
  cases ry
  obtain ⟨its, r, ⟨⟨cls, dd, data, sl⟩, n, ho, hc, hd, hdt⟩, hl⟩ := I.list hH
  obtain ⟨its2, r2, ⟨⟨cls2, dd2, data2, sl2⟩, n2, ho2, hc2, hd2, hdt2⟩, hl2⟩ := I.list hB
  simp only at hc hdt hc2 hdt2
  subst hc hdt hc2 hdt2
  have ea : its.toArray ++ its2.toArray = (its ++ its2).toArray := by simp
  have e1 := r.length
  have e2 := r2.length
  refine concat_meets ⟨_, ho, rfl⟩ ⟨_, ho2, rfl⟩ noFill_list_add seq_list_add PySem.F.slot_list_add PySem.F.entry_list_add (PySem.F.args_list_add_2 _ _) (PyProof.Rows.list_addW l b its.toArray its2.toArray n n2 dd dd2 sl sl2 (by rw [List.size_toArray, List.size_toArray]; omega)) ⟨ho, ho2, ?_⟩
  rw [ea]
  exact ⟨.ref _, _, I.lnew (t' := s.toks) (r.append r2) (by rw [List.length_append]; omega), rfl, q _ I.fresh⟩
theorem se_cat {ta tb : TE} {ga gb : Gd} {fr fr' : Bool} (ha : SE K W Δ ta (.v true fr) ga) (hb : SE K W Δ tb (.v true fr') gb) : SE K W Δ (tOp (rCatS K) ta tb) (.new .l (fr && fr')) (gOp hCat ga gb) := fun f ρ σ H Q R q => by
  refine ha f ρ σ H _ R ?_
  unfold gOp at q
  cases e1 : ga ρ with
  | bad => rw [e1] at q; exact q
  | ex z => rw [e1] at q; exact q
  | ok d =>
    rw [e1, bnd_ok] at q
    intro v H1 s1 x1
    refine hb f ρ σ H1 _ (R.mono s1) ?_
    cases e2 : gb ρ with
    | bad => rw [e2] at q; exact q
    | ex z => rw [e2] at q; exact fun H' s => q H' (s1.trans s)
    | ok d2 =>
      rw [e2, bnd_ok] at q
      intro v2 H2 s2 x2
      unfold hCat at q
      split at q
      · split at q
        · rename_i hz
          obtain ⟨a, xs, rfl, hs, r⟩ := (x1.same s2).sql
          obtain ⟨b, ys, rfl, hs2, r2⟩ := x2.sql
          refine ⟨a, b, xs, ys, rfl, rfl, hs, hs2, sz_le (by rw [r.length, r2.length]; exact hz), fun p np => ?_⟩
          have s12 := s1.trans s2
          refine q p _ (s12.free np) (s12.trans (same_upd np)) ⟨_, _, rfl, upd_same, ?_⟩
          exact (r.mono (same_upd np) fun a y z => ⟨y.weak id (fun h => (Bool.and_eq_true_iff.mp h).1), fun e => z (e ▸ np)⟩).append
            (r2.mono (same_upd np) fun a y z => ⟨y.weak id (fun h => (Bool.and_eq_true_iff.mp h).2), fun e => z (e ▸ np)⟩)
        · exact q.elim
      · exact q.elim
theorem se_catO {ta tb : TE} {ga gb : Gd} {fr fr' : Bool} (ha : SE K W Δ ta (.o fr) ga) (hb : SE K W Δ tb (.v true fr') gb) : SE K W Δ (tOp (rCatS K) ta tb) (.new .l (fr && fr')) (gOp hCat ga gb) := fun f ρ σ H Q R q => by
  refine ha f ρ σ H _ R ?_
  unfold gOp at q
  cases e1 : ga ρ with
  | bad => rw [e1] at q; exact q
  | ex z => rw [e1] at q; exact q
  | ok d =>
    rw [e1, bnd_ok] at q
    intro pp H1 vs ds ed s1 hp gp x1
    subst ed
    refine hb f ρ σ H1 _ (R.mono s1) ?_
    cases e2 : gb ρ with
    | bad => rw [e2] at q; exact q
    | ex z => rw [e2] at q; exact fun H' s => q H' (s1.trans s)
    | ok d2 =>
      rw [e2, bnd_ok] at q
      intro v2 H2 s2 x2
      cases d2 with
      | list es =>
        unfold hCat at q
        simp only at q
        by_cases hz : ds.length + es.length ≤ 100000
        · rw [if_pos hz] at q
          obtain ⟨b, ys, rfl, hs2, r2⟩ := x2.sql
          have r := x1.same s2
          refine ⟨pp, b, vs, ys, rfl, rfl, .inl (.inl (s2 _ _ hp)), hs2, sz_le (by rw [r.length, r2.length]; exact hz), fun p np => ?_⟩
          have s12 := s1.trans s2
          refine q p _ (s12.free np) (s12.trans (same_upd np)) ⟨_, _, rfl, upd_same, ?_⟩
          exact (r.mono (same_upd np) fun a y z => ⟨y.weak id (fun h => (Bool.and_eq_true_iff.mp h).1), fun e => z (e ▸ np)⟩).append
            (r2.mono (same_upd np) fun a y z => ⟨y.weak id (fun h => (Bool.and_eq_true_iff.mp h).2), fun e => z (e ▸ np)⟩)
        · rw [if_neg hz] at q
          exact q.elim
      | _ => exact q.elim
theorem se_rep {ta tb : TE} {ga gb : Gd} {fr av' fr' : Bool} (ha : SE K W Δ ta (.new .l fr) ga) (hb : SE K W Δ tb (.v av' fr') gb) : SE K W Δ (tOp rRep ta tb) (.new .l fr) (gOp hRep ga gb) := fun f ρ σ H Q R q => by
  refine ha f ρ σ H _ R ?_
  unfold gOp at q
  cases e1 : ga ρ with
  | bad => rw [e1] at q; exact q
  | ex z => rw [e1] at q; exact q
  | ok d =>
    rw [e1, bnd_ok] at q
    intro pp H1 npp s1 x1
    obtain ⟨vs, ds, ed, hp, x1⟩ := x1
    subst ed
    refine hb f ρ σ H1 _ (R.mono s1) ?_
    cases e2 : gb ρ with
    | bad => rw [e2] at q; exact q
    | ex z => rw [e2] at q; exact fun H' s => q H' (s1.trans s)
    | ok d2 =>
      rw [e2, bnd_ok] at q
      intro v2 H2 s2 x2
      cases d2 with
      | int k =>
        unfold hRep at q
        simp only at q
        by_cases hz : -(2 ^ 63) ≤ k ∧ k < 2 ^ 63 ∧ ds.length * k.toNat ≤ 100000
        · rw [if_pos hz] at q
          have r := x1.same s2
          rw [rpInt x2]
          refine ⟨pp, k, vs, rfl, rfl, s2 _ _ hp, hz.1, hz.2.1, sz_le (by rw [r.length]; exact hz.2.2), fun p np => ?_⟩
          have s12 := s1.trans s2
          exact q p _ (s12.free np) (s12.trans (same_upd np)) ⟨_, _, rfl, upd_same, (r.mono (same_upd np) fun a y z => ⟨y.1, fun e => z (e ▸ np)⟩).flat _⟩
        · rw [if_neg hz] at q
          exact q.elim
      | _ => exact q.elim
theorem one_eq {h : Dt → O Dt} {ds : List Dt} : (∃ d, ds = [d] ∧ one h ds = h d) ∨ one h ds = .bad := by
  match ds with
  | [] => exact .inr rfl
  | [d] => exact .inl ⟨d, rfl, rfl⟩
  | _ :: _ :: _ => exact .inr rfl
/-- a new list of what one argument holds -/
def rListOf (K : PySem.W.Frag) : List V → Hp → VK → Prop := fun xs H Q => ∃ p ys, xs = [.ref p] ∧ (SqL K H p ys ∨ SqT K H p ys) ∧ ∀ l, H l = none → Q (.ref l) (upd H l (.lst ys))
theorem se_listOf {tA : TA} {gA : List Dt → O (List Dt)} {fr : Bool} (ha : SA K W Δ tA true fr gA) : SE K W Δ (tCB (rListOf K) tA) (.new .l fr) (gCB (one hListOf) gA) := fun f ρ σ H Q R q => by
  refine ha f ρ σ H _ R ?_
  unfold gCB at q
  cases e1 : gA ρ with
  | bad => rw [e1] at q; exact q
  | ex z => rw [e1] at q; exact q
  | ok ds =>
    rw [e1, bnd_ok] at q
    intro vs H1 s1 x1
    rcases one_eq (h := hListOf) (ds := ds) with ⟨d, rfl, e⟩ | e
    · rw [e] at q
      cases x1 with
      | cons x1 xr =>
        cases xr
        cases d with
        | list es =>
          obtain ⟨a, xs, rfl, hs, r⟩ := x1.sql
          exact ⟨a, xs, rfl, .inl hs, fun l nl => q l _ (s1.free nl) (s1.trans (same_upd nl)) ⟨_, _, rfl, upd_same, r.mono (same_upd nl) fun a y z => ⟨y, fun e => z (e ▸ nl)⟩⟩⟩
        | tuple es =>
          obtain ⟨a, xs, rfl, hs, r⟩ := x1.sqt
          exact ⟨a, xs, rfl, .inr hs, fun l nl => q l _ (s1.free nl) (s1.trans (same_upd nl)) ⟨_, _, rfl, upd_same, r.mono (same_upd nl) fun a y z => ⟨y, fun e => z (e ▸ nl)⟩⟩⟩
        | _ => exact q.elim
    · rw [e] at q
      exact q.elim
/-- list(own) -/
theorem se_listOwn {te : TE} {g : Gd} {fr : Bool} (ha : SE K W Δ te (.o fr) g) : SE K W Δ (tCB (rListOf K) (tCons te tNil)) (.new .l fr) (gCB (one hListOf) (gCons g gNil)) := fun f ρ σ H Q R q => by
  refine ha f ρ σ H _ R ?_
  unfold gCB gCons gNil at q
  cases e1 : g ρ with
  | bad => rw [e1] at q; exact q
  | ex z => rw [e1] at q; exact q
  | ok d =>
    rw [e1, bnd_ok, bnd_ok, bnd_ok] at q
    intro p H1 vs ds ed s1 hp gp x1
    subst ed
    exact ⟨p, vs, rfl, .inl (.inl (.inl hp)), fun l nl => q l _ (s1.free nl) (s1.trans (same_upd nl)) ⟨_, _, rfl, upd_same, x1.mono (same_upd nl) fun a y z => ⟨y, fun e => z (e ▸ nl)⟩⟩⟩
theorem se_tupOf {tA : TA} {gA : List Dt → O (List Dt)} {av fr : Bool} (ha : SA K W Δ tA av fr gA) : SE K W Δ (tCB (fun xs H Q => ∃ p ys, xs = [.ref p] ∧ ((SqL K H p ys ∧ ∀ l, H l = none → Q (.ref l) (upd H l (.tup ys))) ∨ (SqT K H p ys ∧ Q (.ref p) H))) tA) (.v av fr) (gCB (one hTupOf) gA) := fun f ρ σ H Q R q => by
  refine ha f ρ σ H _ R ?_
  unfold gCB at q
  cases e1 : gA ρ with
  | bad => rw [e1] at q; exact q
  | ex z => rw [e1] at q; exact q
  | ok ds =>
    rw [e1, bnd_ok] at q
    intro vs H1 s1 x1
    rcases one_eq (h := hTupOf) (ds := ds) with ⟨d, rfl, e⟩ | e
    · rw [e] at q
      cases x1 with
      | cons x1 xr =>
        cases xr
        cases d with
        | list es =>
          obtain ⟨a, xs, rfl, hs, r⟩ := x1.sql
          exact ⟨a, xs, rfl, .inl ⟨hs, fun l nl => q _ _ (s1.trans (same_upd nl)) (.tup (.inl (.inl upd_same)) (r.same (same_upd nl)))⟩⟩
        | tuple es =>
          obtain ⟨a, xs, rfl, hs, r⟩ := x1.sqt
          exact ⟨a, xs, rfl, .inr ⟨hs, q _ _ s1 (.tup hs r)⟩⟩
        | _ => exact q.elim
    · rw [e] at q
      exact q.elim
theorem isort_perm (ns : List Int) : (isort ns).Perm ns := List.mergeSort_perm _ _
theorem isort_sorted (ns : List Int) : (isort ns).Pairwise (· ≤ ·) := by
  have h := List.pairwise_mergeSort (le := fun (a b : Int) => decide (a ≤ b)) (fun a b c h1 h2 => by
    rw [decide_eq_true_eq] at *; omega) (fun a b => by
    rw [Bool.or_eq_true, decide_eq_true_eq, decide_eq_true_eq]; omega) ns
  exact h.imp fun h => of_decide_eq_true h
theorem sorted_unique : ∀ {a b : List Int}, a.Perm b → a.Pairwise (· ≤ ·) → b.Pairwise (· ≤ ·) → a = b
  | [], b, p, _, _ => (List.Perm.nil_eq p)
  | x :: a, [], p, _, _ => absurd p.length_eq (by simp)
  | x :: a, y :: b, p, ha, hb => by
    have h1 : y ≤ x := by
      have : x ∈ y :: b := p.subset List.mem_cons_self
      rcases List.mem_cons.mp this with e | h
      · omega
      · exact (List.pairwise_cons.mp hb).1 x h
    have h2 : x ≤ y := by
      have : y ∈ x :: a := p.symm.subset List.mem_cons_self
      rcases List.mem_cons.mp this with e | h
      · omega
      · exact (List.pairwise_cons.mp ha).1 y h
    have e : x = y := by omega
    subst e
    rw [sorted_unique (List.Perm.cons_inv p) (List.pairwise_cons.mp ha).2 (List.pairwise_cons.mp hb).2]
theorem rpA_ints {F : Addr → Prop} {H : Hp} : ∀ ns : List Int, RpA K F H (ns.map V.int) (ns.map PyData.int)
  | [] => .nil
  | n :: ns => .cons (.int n) (rpA_ints ns)
theorem se_sorted {tA : TA} {gA : List Dt → O (List Dt)} {av fr : Bool} (ha : SA K W Δ tA av fr gA) : SE K W Δ (tCB (rSortedI K) tA) (.new .l true) (gCB (one hSorted) gA) := fun f ρ σ H Q R q => by
  refine ha f ρ σ H _ R ?_
  unfold gCB at q
  cases e1 : gA ρ with
  | bad => rw [e1] at q; exact q
  | ex z => rw [e1] at q; exact q
  | ok ds =>
    rw [e1, bnd_ok] at q
    intro vs H1 s1 x1
    rcases one_eq (h := hSorted) (ds := ds) with ⟨d, rfl, e⟩ | e
    · rw [e] at q
      cases x1 with
      | cons x1 xr =>
        cases xr
        cases d with
        | list es =>
          unfold hSorted at q
          simp only at q
          cases ea : allI es with
          | none => rw [ea] at q; exact q.elim
          | some ns =>
            rw [ea] at q
            obtain ⟨a, xs, rfl, hs, r⟩ := x1.sql
            rw [rp_ints r ea] at hs
            refine ⟨a, ns, rfl, hs, fun ns' l p1 p2 nl => ?_⟩
            have e2 : ns' = isort ns := sorted_unique (p1.trans (isort_perm ns).symm) p2 (isort_sorted ns)
            subst e2
            exact q l _ (s1.free nl) (s1.trans (same_upd nl)) ⟨_, _, rfl, upd_same, rpA_ints _⟩
        | _ => exact q.elim
    · rw [e] at q
      exact q.elim
end

/-! ### what is walked -/
def Sc (K : PySem.W.Frag) (J : It) (pf : Option (Addr × HO)) (vs : List V) (es ds : List Dt) : Prop :=
  Walk J ds.length (fun H => (∀ q, pf = some q → H q.1 = some q.2) ∧ ∃ F, RpA K F H vs es) (fun i H x H' => Same H H' ∧ ∀ F, RpA K F H vs es → ∃ e, ds[i]? = some e ∧ Rp K F H' x e)
def SI (K : PySem.W.Frag) (W : Wt) (Δ : List Kd) (wi : TI) (b fr : Bool) (g : List Dt → O (List Dt)) : Prop := ∀ f ρ σ H Rk, R K f Δ ρ σ H →
  (match g ρ with
    | .bad => False
    | .ex e => ∀ H', Same H H' → W e σ H'
    | .ok ds => ∀ J H' pf vs es, Same H H' → (b = false → pf = none) → (∀ q, pf = some q → H' q.1 = some q.2) → RpA K (FM f Δ σ true fr) H' vs es → Sc K J pf vs es ds → Rk J H') → wi σ H Rk
structure ID (X : Cx) (K : PySem.W.Frag) (W : Wt) (Δ : List Kd) (tg iter : Expr) (wi : TI) (b fr : Bool) (g : List Dt → O (List Dt)) : Prop where
  pi : PI X tg iter wi
  hK : X.K = K
  si : SI K W Δ wi b fr g

def gSeq (g : Gd) : List Dt → O (List Dt) := fun ρ => bnd (g ρ) fun d => match d with
  | .list ds => .ok ds
  | .tuple ds => .ok ds
  | _ => .bad
def rangeD (lo hi : Int) : List Dt := (List.range (hi - lo).toNat).map fun (i : Nat) => .int (lo + (i : Int))
def rng1 : List Dt → Option (Int × Int)
  | [.int j] => if -(2 ^ 62) ≤ j ∧ j < 2 ^ 62 then some (0, j) else none
  | _ => none
def rng2 : List Dt → Option (Int × Int)
  | [.int i, .int j] => if -(2 ^ 62) ≤ i ∧ i < 2 ^ 62 ∧ -(2 ^ 62) ≤ j ∧ j < 2 ^ 62 then some (i, j) else none
  | _ => none
def gRng1 (g : List Dt → O (List Dt)) : List Dt → O (List Dt) := fun ρ => bnd (g ρ) fun ds => match rng1 ds with
  | some p => .ok (rangeD p.1 p.2)
  | none => .bad
def gRng2 (g : List Dt → O (List Dt)) : List Dt → O (List Dt) := fun ρ => bnd (g ρ) fun ds => match rng2 ds with
  | some p => .ok (rangeD p.1 p.2)
  | none => .bad

def iSeq (K : PySem.W.Frag) (tl : TE) : TI := fun σ H R => tl σ H fun x H1 => ∃ a, x = .ref a ∧ (((∃ xs, SqL K H1 a xs) ∧ R (Itl K a) H1) ∨ ((∃ xs, SqT K H1 a xs) ∧ R (Itt K a) H1))
theorem pi_seq {X : Cx} {tg l : Expr} {tl : TE} (hl : PE X l tl) : PI X tg l (iSeq X.K tl) := by
  refine ⟨fun pins s σ H R I h => ?_⟩
  refine thn (hl.run pins s σ H _ I h) fun v s1 ⟨x, H1, I1, r1, q1⟩ => ?_
  obtain ⟨a, e, q⟩ := q1
  subst e
  cases r1
  rcases q with ⟨⟨xs, hq⟩, q⟩ | ⟨⟨xs, hq⟩, q⟩
  · obtain ⟨its, rv, p, hz⟩ := I1.list hq
    refine wpAny_pyIter_list p.isList ?_
    refine ⟨s1.heap.objs.size, [s1.heap.objs.size], _, _, H1, rfl, I1.kept (t' := s1.toks) fun b o e => Heap.get?_push_of_some _ e, turn_list a _, ⟨_, Heap.get?_push_size _ rfl, rfl, rfl⟩, fun b hb => ?_, q⟩
    have e : b = s1.heap.objs.size := by simpa using hb
    subst e
    exact I1.fpOk (Nat.le_refl _) (I1.hok.fresh (Nat.le_refl _))
  · obtain ⟨its, rv, p, hz⟩ := I1.tuple hq
    refine wpAny_pyIter_tuple (show s1.heap.IsTuple a its.toArray from p) ?_
    refine ⟨s1.heap.objs.size, [s1.heap.objs.size], _, _, H1, rfl, I1.kept (t' := s1.toks) fun b o e => Heap.get?_push_of_some _ e, turn_tuple a _, ⟨_, Heap.get?_push_size _ rfl, rfl, rfl⟩, fun b hb => ?_, q⟩
    have e : b = s1.heap.objs.size := by simpa using hb
    subst e
    exact I1.fpOk (Nat.le_refl _) (I1.hok.fresh (Nat.le_refl _))

section
variable {K : PySem.W.Frag} {W : Wt} {Δ : List Kd}
theorem sc_list {a : Addr} {ds : List Dt} : Sc K (Itl K a) none [.ref a] [.list ds] ds where
  goes := fun i H hi ⟨_, F, r⟩ => by
    cases r with
    | cons h _ =>
      obtain ⟨b, xs, e, hs, r⟩ := h.sql
      cases e
      have hx : i < xs.length := by rw [r.length]; exact hi
      exact ⟨xs, xs[i], hs, List.getElem?_eq_getElem hx⟩
  stops := fun H ⟨_, F, r⟩ => by
    cases r with
    | cons h _ =>
      obtain ⟨b, xs, e, hs, r⟩ := h.sql
      cases e
      exact ⟨xs, hs, Nat.le_of_eq r.length⟩
  yields := fun i H x H' hi _ y => by
    obtain ⟨e, y⟩ := y
    subst e
    refine ⟨Same.refl _, fun F r => ?_⟩
    cases r with
    | cons h _ =>
      obtain ⟨b, xs, e, hs, r⟩ := h.sql
      cases e
      exact r.get (y xs hs)
theorem sc_tup {a : Addr} {ds : List Dt} : Sc K (Itt K a) none [.ref a] [.tuple ds] ds where
  goes := fun i H hi ⟨_, F, r⟩ => by
    cases r with
    | cons h _ =>
      obtain ⟨b, xs, e, hs, r⟩ := h.sqt
      cases e
      have hx : i < xs.length := by rw [r.length]; exact hi
      exact ⟨xs, xs[i], hs, List.getElem?_eq_getElem hx⟩
  stops := fun H ⟨_, F, r⟩ => by
    cases r with
    | cons h _ =>
      obtain ⟨b, xs, e, hs, r⟩ := h.sqt
      cases e
      exact ⟨xs, hs, Nat.le_of_eq r.length⟩
  yields := fun i H x H' hi _ y => by
    obtain ⟨e, y⟩ := y
    subst e
    refine ⟨Same.refl _, fun F r => ?_⟩
    cases r with
    | cons h _ =>
      obtain ⟨b, xs, e, hs, r⟩ := h.sqt
      cases e
      exact r.get (y xs hs)
theorem sc_own {a : Addr} {vs : List V} {ds : List Dt} (hl : vs.length = ds.length) : Sc K (Itl K a) (some (a, .lst vs)) vs ds ds where
  goes := fun i H hi ⟨h, F, r⟩ => by
    have hx : i < vs.length := by rw [r.length]; exact hi
    exact ⟨vs, vs[i], .inl (.inl (h _ rfl)), List.getElem?_eq_getElem hx⟩
  stops := fun H ⟨h, F, r⟩ => ⟨vs, .inl (.inl (h _ rfl)), Nat.le_of_eq hl⟩
  yields := fun i H x H' hi ⟨h, _⟩ y => by
    obtain ⟨e, y⟩ := y
    subst e
    exact ⟨Same.refl _, fun F r => r.get (y vs (.inl (.inl (h _ rfl))))⟩
theorem rangeD_len (lo hi : Int) : (rangeD lo hi).length = (hi - lo).toNat := by unfold rangeD; simp
theorem sc_range {lo hi : Int} : Sc K (Itr lo (hi - lo).toNat) none [] [] (rangeD lo hi) where
  goes := fun i H hi' _ => by rw [rangeD_len] at hi'; exact hi'
  stops := fun H _ => by rw [rangeD_len]; exact Nat.le_refl _
  yields := fun i H x H' hi' _ y => by
    obtain ⟨e, y⟩ := y
    subst e y
    refine ⟨Same.refl _, fun F r => ⟨_, ?_, .int _⟩⟩
    rw [rangeD_len] at hi'
    unfold rangeD
    rw [List.getElem?_map, List.getElem?_range hi']
    rfl
theorem si_seq {te : TE} {g : Gd} {fr : Bool} (h : SE K W Δ te (.v true fr) g) : SI K W Δ (iSeq K te) false fr (gSeq g) := fun f ρ σ H Rk R q => by
  refine h f ρ σ H _ R ?_
  unfold gSeq at q
  cases e1 : g ρ with
  | bad => rw [e1] at q; exact q
  | ex z => rw [e1] at q; exact q
  | ok d =>
    rw [e1, bnd_ok] at q
    intro v H1 s1 x1
    cases d with
    | list ds =>
      obtain ⟨a, xs, rfl, hs, r⟩ := x1.sql
      exact ⟨a, rfl, .inl ⟨⟨xs, hs⟩, q _ H1 none [.ref a] [.list ds] s1 (fun _ => rfl) (fun _ e => nomatch e) (.cons x1 .nil) sc_list⟩⟩
    | tuple ds =>
      obtain ⟨a, xs, rfl, hs, r⟩ := x1.sqt
      exact ⟨a, rfl, .inr ⟨⟨xs, hs⟩, q _ H1 none [.ref a] [.tuple ds] s1 (fun _ => rfl) (fun _ e => nomatch e) (.cons x1 .nil) sc_tup⟩⟩
    | _ => exact q.elim
theorem si_own {te : TE} {g : Gd} {fr : Bool} (h : SE K W Δ te (.o fr) g) : SI K W Δ (iSeq K te) true fr (gSeq g) := fun f ρ σ H Rk R q => by
  refine h f ρ σ H _ R ?_
  unfold gSeq at q
  cases e1 : g ρ with
  | bad => rw [e1] at q; exact q
  | ex z => rw [e1] at q; exact q
  | ok d =>
    rw [e1, bnd_ok] at q
    intro p H1 vs ds ed s1 hp gp x1
    subst ed
    exact ⟨p, rfl, .inl ⟨⟨vs, .inl (.inl hp)⟩, q _ H1 (some (p, .lst vs)) vs ds s1 (fun e => nomatch e) (fun _ e => by cases e; exact hp) x1 (sc_own x1.length)⟩⟩
theorem si_rng1 {tA : TA} {gA : List Dt → O (List Dt)} {av fr : Bool} (h : SA K W Δ tA av fr gA) : SI K W Δ (iRng1 tA) false true (gRng1 gA) := fun f ρ σ H Rk R q => by
  refine h f ρ σ H _ R ?_
  unfold gRng1 at q
  cases e1 : gA ρ with
  | bad => rw [e1] at q; exact q
  | ex z => rw [e1] at q; exact q
  | ok ds =>
    rw [e1, bnd_ok] at q
    intro vs H1 s1 x1
    cases er : rng1 ds with
    | none => rw [er] at q; exact q.elim
    | some p =>
      rw [er] at q
      unfold rng1 at er
      split at er
      · split at er
        · rename_i j c
          cases er
          cases x1 with
          | cons x1 xr =>
            cases xr
            rw [rpInt x1]
            refine ⟨j, rfl, c.1, c.2, ?_⟩
            have w := q (Itr 0 (j - 0).toNat) H1 none [] [] s1 (fun _ => rfl) (fun _ e => nomatch e) .nil sc_range
            rw [Int.sub_zero] at w
            exact w
        · cases er
      · cases er

theorem si_rng2 {tA : TA} {gA : List Dt → O (List Dt)} {av fr : Bool} (h : SA K W Δ tA av fr gA) : SI K W Δ (iRng2 tA) false true (gRng2 gA) := fun f ρ σ H Rk R q => by
  refine h f ρ σ H _ R ?_
  unfold gRng2 at q
  cases e1 : gA ρ with
  | bad => rw [e1] at q; exact q
  | ex z => rw [e1] at q; exact q
  | ok ds =>
    rw [e1, bnd_ok] at q
    intro vs H1 s1 x1
    cases er : rng2 ds with
    | none => rw [er] at q; exact q.elim
    | some p =>
      rw [er] at q
      unfold rng2 at er
      split at er
      · split at er
        · rename_i i j c
          cases er
          cases x1 with
          | cons x1 xr =>
            cases xr with
            | cons x2 xr =>
              cases xr
              rw [rpInt x1, rpInt x2]
              exact ⟨i, j, rfl, c, q (Itr i (j - i).toNat) H1 none [] [] s1 (fun _ => rfl) (fun _ e => nomatch e) .nil sc_range⟩
        · cases er
      · cases er

end
end Sim
end T_SimD

section T_SimE
set_option Elab.async false
set_option linter.all false
set_option maxRecDepth 100000
/-! SimE: targets, comprehensions, calls. -/
namespace Sim
open PySem PySem.Spec L2
open PyProof.Rows hiding St

/-! ### weaker kinds -/
def bLe (a b : Bool) : Bool := !b || a
def kLe : Kd → Kd → Bool
  | _, .no => true
  | .im a, .im b => bLe a b
  | .own .l a, .im b => bLe a b
  | .own .l a, .own .l b => bLe a b
  | .own .dk a, .own .dk b => bLe a b
  | .own .dt a, .own .dt b => bLe a b
  | _, _ => false
def leA : List Kd → List Kd → Bool
  | [], [] => true
  | k :: ks, l :: ls => kLe k l && leA ks ls
  | _, _ => false
theorem bLe_imp {a b : Bool} (h : bLe a b = true) : b = true → a = true := fun e => by subst e; cases a; cases h; rfl
theorem leA_len : ∀ {Δ Δ' : List Kd}, leA Δ Δ' = true → Δ.length = Δ'.length
  | [], [], _ => rfl
  | [], _ :: _, h => by cases h
  | _ :: _, [], h => by cases h
  | k :: ks, l :: ls, h => by
    unfold leA at h
    rw [Bool.and_eq_true] at h
    rw [List.length_cons, List.length_cons, leA_len h.2]
theorem leA_get : ∀ {Δ Δ' : List Kd}, leA Δ Δ' = true → ∀ {i : Nat} {k' : Kd}, Δ'[i]? = some k' → ∃ k, Δ[i]? = some k ∧ kLe k k' = true
  | [], [], _, i, k', h => by simp at h
  | [], _ :: _, h, _, _, _ => by cases h
  | _ :: _, [], h, _, _, _ => by cases h
  | k :: ks, l :: ls, h, 0, k', e => by
    unfold leA at h
    rw [Bool.and_eq_true] at h
    simp at e; subst e
    exact ⟨k, rfl, h.1⟩
  | k :: ks, l :: ls, h, i + 1, k', e => by
    unfold leA at h
    rw [Bool.and_eq_true] at h
    obtain ⟨q, h1, h2⟩ := leA_get h.2 (i := i) (k' := k') (by simpa using e)
    exact ⟨q, by simpa using h1, h2⟩
theorem kLe_own {k : Kd} {c : Ct} {fr : Bool} (h : kLe k (.own c fr) = true) : ∃ fr', k = .own c fr' ∧ (fr = true → fr' = true) := by
  cases k with
  | no => cases c <;> cases h
  | im a => cases c <;> cases h
  | own c' a => cases c' <;> cases c <;> first | (cases h; done) | exact ⟨a, rfl, bLe_imp h⟩
theorem kLe_im {k : Kd} {fr : Bool} (h : kLe k (.im fr) = true) : (∃ fr', k = .im fr' ∧ (fr = true → fr' = true)) ∨ ∃ fr', k = .own .l fr' ∧ (fr = true → fr' = true) := by
  cases k with
  | no => cases h
  | im a => exact .inl ⟨a, rfl, bLe_imp h⟩
  | own c' a => cases c' <;> first | (cases h; done) | exact .inr ⟨a, rfl, bLe_imp h⟩

section
variable {K : PySem.W.Frag} {f : Fm} {Δ Δ' : List Kd} {ρ : List Dt} {σ σ' : L2.St} {H : Hp}
theorem R.weak (r : R K f Δ ρ σ H) (h : leA Δ Δ' = true) : R K f Δ' ρ σ H := by
  have ow' : ∀ a, Ow Δ' σ a → Ow Δ σ a := fun a ⟨i, c, fr, h1, h2⟩ => by
    obtain ⟨k, e, hk⟩ := leA_get h h1
    obtain ⟨fr', rfl, _⟩ := kLe_own hk
    exact ⟨i, c, fr', e, h2⟩
  have key : ∀ {fr fr' : Bool} {v : V} {d : Dt}, (fr' = true → fr = true) → Rp K (FM f Δ σ true fr) H v d → Rp K (FM f Δ' σ true fr') H v d := fun hf h =>
    h.weak fun a fa => ⟨fun _ => ⟨fun z => (fa.1 rfl).1 (ow' a z), (fa.1 rfl).2⟩, fun e => fa.2 (hf e)⟩
  refine ⟨r.ext, r.g0, by rw [r.lσ, leA_len h], by rw [r.lρ, leA_len h], ?_, fun a ha => ⟨(r.pin a ha).1, fun z => (r.pin a ha).2 (ow' a z)⟩, fun g hg => (r.gh g hg).map fun _ _ x => key id x, fun i fr h' => ?_, fun i c fr h' => ?_⟩
  · intro i j ci fi cj fj p h1 h2 h3 h4
    obtain ⟨k, e, hk⟩ := leA_get h h1
    obtain ⟨fr', rfl, _⟩ := kLe_own hk
    obtain ⟨k2, e2, hk2⟩ := leA_get h h2
    obtain ⟨fr2, rfl, _⟩ := kLe_own hk2
    exact r.inj i j _ _ _ _ p e e2 h3 h4
  · obtain ⟨k, e, hk⟩ := leA_get h h'
    rcases kLe_im hk with ⟨fr', rfl, hf⟩ | ⟨fr', rfl, hf⟩
    · obtain ⟨v, d, h1, h2, h3⟩ := r.im i fr' e
      exact ⟨v, d, h1, h2, key hf h3⟩
    · obtain ⟨p, d, h1, h2, h3, vs, ds, ed, hp, h4⟩ := r.ow i .l fr' e
      subst ed
      refine ⟨.ref p, _, h1, h2, .lst hp ⟨fun _ => ⟨fun z => ?_, fun z => ?_⟩, fun _ => r.g0 p h3⟩ (h4.map fun _ _ x => key hf x)⟩
      · obtain ⟨j, c, frj, g1, g2⟩ := z
        obtain ⟨k2, e2, hk2⟩ := leA_get h g1
        obtain ⟨fr2, rfl, _⟩ := kLe_own hk2
        have ij := r.inj i j _ _ _ _ p e e2 h1 g2
        subst ij
        rw [h'] at g1
        cases g1
      · exact (r.pin p z).2 ⟨i, .l, fr', e, h1⟩
  · obtain ⟨k, e, hk⟩ := leA_get h h'
    obtain ⟨fr', rfl, hf⟩ := kLe_own hk
    obtain ⟨p, d, h1, h2, h3, h4⟩ := r.ow i c fr' e
    exact ⟨p, d, h1, h2, h3, h4.map (fun o e => e) fun _ _ x => key hf x⟩

/-! ### targets -/
structure TgOk (K : PySem.W.Frag) (f : Fm) (Δ Δ' : List Kd) (ρ' : List Dt) (σ σ' : L2.St) (H : Hp) (sl : List Nat) : Prop where
  r : R K f Δ' ρ' σ' H
  keep : ∀ i, i ∉ sl → Δ'[i]? = Δ[i]? ∧ σ'[i]? = σ[i]?
  im : ∀ i, i ∈ sl → ∃ fr, Δ'[i]? = some (.im fr)
  len : Δ'.length = Δ.length
theorem TgOk.ow {ρ' : List Dt} {sl : List Nat} (t : TgOk K f Δ Δ' ρ' σ σ' H sl) {a : Addr} (h : Ow Δ' σ' a) : Ow Δ σ a := by
  obtain ⟨i, c, fr, h1, h2⟩ := h
  by_cases z : i ∈ sl
  · obtain ⟨fr', e⟩ := t.im i z
    rw [e] at h1; cases h1
  · obtain ⟨e1, e2⟩ := t.keep i z
    exact ⟨i, c, fr, e1 ▸ h1, e2 ▸ h2⟩
theorem TgOk.ow' {ρ' : List Dt} {sl : List Nat} (t : TgOk K f Δ Δ' ρ' σ σ' H sl) (no : ∀ i ∈ sl, ∀ c fr, Δ[i]? ≠ some (.own c fr)) {a : Addr} (h : Ow Δ σ a) : Ow Δ' σ' a := by
  obtain ⟨i, c, fr, h1, h2⟩ := h
  by_cases z : i ∈ sl
  · exact absurd h1 (no i z c fr)
  · obtain ⟨e1, e2⟩ := t.keep i z
    exact ⟨i, c, fr, e1 ▸ h1, e2 ▸ h2⟩
theorem TgOk.fm {ρ' : List Dt} {sl : List Nat} (t : TgOk K f Δ Δ' ρ' σ σ' H sl) {av fr : Bool} {a : Addr} (h : FM f Δ σ av fr a) : FM f Δ' σ' av fr a := ⟨fun e => ⟨fun z => (h.1 e).1 (t.ow z), (h.1 e).2⟩, h.2⟩
theorem TgOk.fm' {ρ' : List Dt} {sl : List Nat} (t : TgOk K f Δ Δ' ρ' σ σ' H sl) (no : ∀ i ∈ sl, ∀ c fr, Δ[i]? ≠ some (.own c fr)) {av fr : Bool} {a : Addr} (h : FM f Δ' σ' av fr a) : FM f Δ σ av fr a := ⟨fun e => ⟨fun z => (h.1 e).1 (t.ow' no z), (h.1 e).2⟩, h.2⟩
theorem TgOk.refl (r : R K f Δ ρ σ H) : TgOk K f Δ Δ ρ σ σ H [] := ⟨r, fun _ _ => ⟨rfl, rfl⟩, fun _ h => absurd h (by simp), rfl⟩
theorem TgOk.trans {Δ1 Δ2 : List Kd} {ρ1 ρ2 : List Dt} {σ1 σ2 : L2.St} {s1 s2 : List Nat} (t : TgOk K f Δ Δ1 ρ1 σ σ1 H s1) (u : TgOk K f Δ1 Δ2 ρ2 σ1 σ2 H s2) : TgOk K f Δ Δ2 ρ2 σ σ2 H (s1 ++ s2) := by
  refine ⟨u.r, fun i h => ?_, fun i h => ?_, u.len.trans t.len⟩
  · rw [List.mem_append, not_or] at h
    obtain ⟨a1, a2⟩ := t.keep i h.1
    obtain ⟨b1, b2⟩ := u.keep i h.2
    exact ⟨b1.trans a1, b2.trans a2⟩
  · by_cases z : i ∈ s2
    · exact u.im i z
    · rcases List.mem_append.mp h with h | h
      · obtain ⟨fr, e⟩ := t.im i h
        exact ⟨fr, (u.keep i z).1.trans e⟩
      · exact absurd h z
end

def GJ (K : PySem.W.Frag) (n : Nat) (g : TG) (sl : List Nat) (h : Dt → List Dt → O (List Dt)) (TK : Bool → List Kd → List Kd) : Prop := ∀ f Δ ρ σ H v d fr Q, Δ.length = n → R K f Δ ρ σ H → Rp K (FM f Δ σ true fr) H v d →
  (match h d ρ with | .ok ρ' => ∀ σ', TgOk K f Δ (TK fr Δ) ρ' σ σ' H sl → Q σ' H | _ => False) → g v σ H Q
def GJs (K : PySem.W.Frag) (n : Nat) (g : TGs) (sl : List Nat) (h : List Dt → List Dt → O (List Dt)) (TK : Bool → List Kd → List Kd) : Prop := ∀ f Δ ρ σ H vs ds fr Q, Δ.length = n → R K f Δ ρ σ H → RpA K (FM f Δ σ true fr) H vs ds →
  (match h ds ρ with | .ok ρ' => ∀ σ', TgOk K f Δ (TK fr Δ) ρ' σ σ' H sl → Q σ' H | _ => False) → g vs σ H Q
structure GD (X : Cx) (K : PySem.W.Frag) (n : Nat) (tg : Expr) (g : TG) (sl : List Nat) (h : Dt → List Dt → O (List Dt)) (TK : Bool → List Kd → List Kd) : Prop where
  pg : PG X tg g
  hK : X.K = K
  gj : GJ K n g sl h TK
structure GDs (X : Cx) (K : PySem.W.Frag) (n : Nat) (tg : List Expr) (g : TGs) (sl : List Nat) (h : List Dt → List Dt → O (List Dt)) (TK : Bool → List Kd → List Kd) : Prop where
  pg : PGs X tg g
  hK : X.K = K
  gj : GJs K n g sl h TK
def tgN (i : Nat) : Dt → List Dt → O (List Dt) := fun d ρ => .ok (ρ.set i d)
def tgT (h : List Dt → List Dt → O (List Dt)) : Dt → List Dt → O (List Dt) := fun d ρ => match d with
  | .tuple ds => h ds ρ
  | _ => .bad
def tgL (h : List Dt → List Dt → O (List Dt)) : Dt → List Dt → O (List Dt) := fun d ρ => match d with
  | .list ds => h ds ρ
  | _ => .bad
def tgNil : List Dt → List Dt → O (List Dt) := fun ds ρ => match ds with
  | [] => .ok ρ
  | _ => .bad
def tgCons (h : Dt → List Dt → O (List Dt)) (u : List Dt → List Dt → O (List Dt)) : List Dt → List Dt → O (List Dt) := fun ds ρ => match ds with
  | d :: r => (match h d ρ with
    | .ok ρ' => u r ρ'
    | _ => .bad)
  | [] => .bad
def TKN (i : Nat) : Bool → List Kd → List Kd := fun fr Δ => Δ.set i (.im fr)
def TK0 : Bool → List Kd → List Kd := fun _ Δ => Δ
def TKC (a b : Bool → List Kd → List Kd) : Bool → List Kd → List Kd := fun fr Δ => b fr (a fr Δ)

section
variable {K : PySem.W.Frag} {n : Nat}
theorem gj_name {i : Nat} (hi : i < n) : GJ K n (gName i) [i] (tgN i) (TKN i) := fun f Δ ρ σ H v d fr Q hl R x q => by
  have hi' : i < Δ.length := by rw [hl]; exact hi
  refine q (σ.set i (some v)) ⟨R.setIm hi' x, fun j h => ?_, fun j h => ?_, by unfold TKN; rw [List.length_set]⟩
  · have : i ≠ j := fun e => h (by rw [e]; exact List.mem_singleton.mpr rfl)
    unfold TKN
    exact ⟨List.getElem?_set_ne this, List.getElem?_set_ne this⟩
  · have : j = i := List.mem_singleton.mp h
    subst this
    unfold TKN
    exact ⟨fr, List.getElem?_set_self hi'⟩
theorem gj_nil : GJs K n L2.gNil [] tgNil TK0 := fun f Δ ρ σ H vs ds fr Q hl R x q => by
  cases x with
  | nil => exact ⟨rfl, q σ (.refl R)⟩
  | cons => exact q.elim
theorem gj_cons {g : TG} {gs : TGs} {s1 s2 : List Nat} {h : Dt → List Dt → O (List Dt)} {u : List Dt → List Dt → O (List Dt)} {T1 T2 : Bool → List Kd → List Kd} (a : GJ K n g s1 h T1) (b : GJs K n gs s2 u T2) :
    GJs K n (L2.gCons g gs) (s1 ++ s2) (tgCons h u) (TKC T1 T2) := fun f Δ ρ σ H vs ds fr Q hl R x q => by
  cases x with
  | nil => exact q.elim
  | cons x r =>
    refine ⟨_, _, rfl, ?_⟩
    unfold tgCons at q
    refine a f Δ ρ σ H _ _ fr _ hl R x ?_
    simp only at q
    revert q
    cases e : h _ ρ with
    | bad => exact fun q => q.elim
    | ex z => exact fun q => q.elim
    | ok ρ1 =>
      intro q σ1 t1
      refine b f _ ρ1 σ1 H _ _ fr _ (t1.len.trans hl) t1.r (r.weak fun _ y => t1.fm y) ?_
      simp only at q
      revert q
      cases e2 : u _ ρ1 with
      | bad => exact fun q => q.elim
      | ex z => exact fun q => q.elim
      | ok ρ2 => exact fun q σ2 t2 => q σ2 (t1.trans t2)
theorem gj_tup {m : Nat} {gs : TGs} {sl : List Nat} {u : List Dt → List Dt → O (List Dt)} {T : Bool → List Kd → List Kd} (b : GJs K n gs sl u T) (hm : ∀ ds ρ, ds.length ≠ m → ∀ z, u ds ρ ≠ .ok z) :
    GJ K n (L2.gTup K m gs) sl (tgT u) T := fun f Δ ρ σ H v d fr Q hl R x q => by
  cases d with
  | tuple ds =>
    obtain ⟨a, xs, rfl, hs, r⟩ := x.sqt
    have q : (match u ds ρ with | .ok ρ' => ∀ σ', TgOk K f Δ (T fr Δ) ρ' σ σ' H sl → Q σ' H | _ => False) := q
    refine ⟨a, xs, rfl, hs, ?_, b f Δ ρ σ H xs ds fr Q hl R r q⟩
    by_cases e : ds.length = m
    · rw [r.length]; exact e
    · cases eu : u ds ρ with
      | ok z => exact absurd eu (hm ds ρ e z)
      | bad => rw [eu] at q; exact q.elim
      | ex z => rw [eu] at q; exact q.elim
  | _ => exact q.elim
theorem tgNil_len : ∀ ds ρ, ds.length ≠ 0 → ∀ z, tgNil ds ρ ≠ .ok z
  | [], _, h, _ => absurd rfl h
  | _ :: _, _, _, _ => fun e => by cases e
theorem tgCons_len {m : Nat} {h : Dt → List Dt → O (List Dt)} {u : List Dt → List Dt → O (List Dt)} (hu : ∀ ds ρ, ds.length ≠ m → ∀ z, u ds ρ ≠ .ok z) : ∀ ds ρ, ds.length ≠ m + 1 → ∀ z, tgCons h u ds ρ ≠ .ok z
  | [], _, _, _ => fun e => by cases e
  | d :: r, ρ, hl, z => fun e => by
    unfold tgCons at e
    simp only at e
    cases eh : h d ρ with
    | bad => rw [eh] at e; cases e
    | ex y => rw [eh] at e; cases e
    | ok ρ' =>
      rw [eh] at e
      exact hu r ρ' (fun q => hl (by rw [List.length_cons, q])) z e
end
section
variable {X : Cx} {K : PySem.W.Frag} {n : Nat} {pos : Pos}
theorem g_name (i : Nat) {x : Str} (hN : X.N.Nodup) (hn : i < n := by decide) (hi : X.N[i]? = some x := by rfl) (hx : Loc X.env.scope x := by first | exact .inl rfl | exact .inr rfl) (hf : X.fn x = true ∨ X.env.scope.names.lookup x = some .local := by first | exact .inl rfl | exact .inr rfl) (hK : X.K = K := by rfl) :
    GD X K n (.Name x pos) (gName i) [i] (tgN i) (TKN i) := ⟨pg_name hN hi hx hf, hK, gj_name hn⟩
theorem g_nil (hK : X.K = K := by rfl) : GDs X K n [] L2.gNil [] tgNil TK0 := ⟨pgs_nil, hK, gj_nil⟩
theorem g_cons {e : Expr} {es : List Expr} {g : TG} {gs : TGs} {s1 s2 : List Nat} {h : Dt → List Dt → O (List Dt)} {u : List Dt → List Dt → O (List Dt)} {T1 T2 : Bool → List Kd → List Kd} (a : GD X K n e g s1 h T1) (b : GDs X K n es gs s2 u T2)
    (hs : (assignEach (e :: es) X.env).map (·.2) = assign e X.env :: (assignEach es X.env).map (·.2) := by rfl) : GDs X K n (e :: es) (L2.gCons g gs) (s1 ++ s2) (tgCons h u) (TKC T1 T2) := ⟨pgs_cons a.pg b.pg hs, a.hK, gj_cons a.gj b.gj⟩
end

/-! ### comprehensions -/
abbrev W0 : Wt := fun _ _ _ => False
def wipeK (Δ : List Kd) : List Nat → List Kd
  | [] => Δ
  | v :: vs => (wipeK Δ vs).set v .no
def noOwn (Δ : List Kd) (vs : List Nat) : Bool := vs.all fun i => match Δ[i]? with
  | some (.own _ _) => false
  | _ => true
theorem wipeK_len (Δ : List Kd) : ∀ vs, (wipeK Δ vs).length = Δ.length
  | [] => rfl
  | v :: vs => by unfold wipeK; rw [List.length_set, wipeK_len Δ vs]
theorem wipeK_out {Δ : List Kd} {i : Nat} : ∀ {vs : List Nat}, i ∉ vs → (wipeK Δ vs)[i]? = Δ[i]?
  | [], _ => rfl
  | v :: vs, h => by
    unfold wipeK
    rw [List.getElem?_set_ne (fun e => h (by rw [e]; exact List.mem_cons_self)), wipeK_out fun z => h (List.mem_cons_of_mem _ z)]
theorem wipeK_in {Δ : List Kd} {i : Nat} : ∀ {vs : List Nat}, i ∈ vs → ∀ k, (wipeK Δ vs)[i]? = some k → k = .no
  | [], h, _, _ => absurd h (by simp)
  | v :: vs, h, k, e => by
    unfold wipeK at e
    by_cases z : v = i
    · subst z
      by_cases hv : v < (wipeK Δ vs).length
      · rw [List.getElem?_set_self hv] at e
        exact (Option.some.inj e).symm
      · rw [List.getElem?_eq_none (by rw [List.length_set]; omega)] at e
        cases e
    · rw [List.getElem?_set_ne z] at e
      rcases List.mem_cons.mp h with q | q
      · exact absurd q.symm z
      · exact wipeK_in q k e
theorem wipe_out {σ : L2.St} {i : Nat} : ∀ {vs : List Nat}, i ∉ vs → (wipe σ vs)[i]? = σ[i]?
  | [], _ => rfl
  | v :: vs, h => by
    unfold wipe
    rw [List.getElem?_set_ne (fun e => h (by rw [e]; exact List.mem_cons_self)), wipe_out fun z => h (List.mem_cons_of_mem _ z)]
theorem wipe_in {σ : L2.St} {i : Nat} : ∀ {vs : List Nat}, i ∈ vs → i < σ.length → (wipe σ vs)[i]? = some none
  | [], h, _ => absurd h (by simp)
  | v :: vs, h, hl => by
    unfold wipe
    by_cases z : v = i
    · subst z
      rw [List.getElem?_set_self (by rw [wipe_length]; exact hl)]
    · rw [List.getElem?_set_ne z]
      rcases List.mem_cons.mp h with q | q
      · exact absurd q.symm z
      · exact wipe_in q hl
theorem wipe_eq {σ σ' : L2.St} {vs : List Nat} (hl : σ'.length = σ.length) (h : ∀ i, i ∉ vs → σ'[i]? = σ[i]?) : wipe σ' vs = wipe σ vs := by
  apply List.ext_getElem?
  intro i
  by_cases z : i ∈ vs
  · by_cases q : i < σ.length
    · rw [wipe_in z (by rw [hl]; exact q), wipe_in z q]
    · rw [List.getElem?_eq_none (by rw [wipe_length, hl]; omega), List.getElem?_eq_none (by rw [wipe_length]; omega)]
  · rw [wipe_out z, wipe_out z]
    exact h i z
theorem noOwn_get {Δ : List Kd} {vs : List Nat} (h : noOwn Δ vs = true) {i : Nat} (hi : i ∈ vs) {c : Ct} {fr : Bool} : Δ[i]? ≠ some (.own c fr) := fun e => by
  have q := List.all_eq_true.mp h i hi
  rw [e] at q
  cases q
section
variable {K : PySem.W.Frag} {f : Fm} {Δ : List Kd} {ρ : List Dt} {σ : L2.St} {H : Hp}
theorem ow_wipe {vs : List Nat} (h : noOwn Δ vs = true) {a : Addr} : Ow (wipeK Δ vs) (wipe σ vs) a ↔ Ow Δ σ a := by
  constructor
  · rintro ⟨i, c, fr, h1, h2⟩
    have z : i ∉ vs := fun z => by cases wipeK_in z _ h1
    exact ⟨i, c, fr, by rw [← wipeK_out z]; exact h1, by rw [← wipe_out z]; exact h2⟩
  · rintro ⟨i, c, fr, h1, h2⟩
    have z : i ∉ vs := fun z => noOwn_get h z h1
    exact ⟨i, c, fr, by rw [wipeK_out z]; exact h1, by rw [wipe_out z]; exact h2⟩
theorem fm_wipe {vs : List Nat} (h : noOwn Δ vs = true) {av fr : Bool} {a : Addr} : FM f (wipeK Δ vs) (wipe σ vs) av fr a ↔ FM f Δ σ av fr a := by
  unfold FM
  rw [ow_wipe h]
theorem R.wipe {vs : List Nat} (h : noOwn Δ vs = true) (r : R K f Δ ρ σ H) : R K f (wipeK Δ vs) ρ (L2.wipe σ vs) H := by
  refine ⟨r.ext, r.g0, by rw [wipe_length, wipeK_len]; exact r.lσ, by rw [wipeK_len]; exact r.lρ, ?_, fun a ha => ⟨(r.pin a ha).1, fun z => (r.pin a ha).2 ((ow_wipe h).mp z)⟩, fun g hg => (r.gh g hg).weak fun a y => (fm_wipe h).mpr y, fun i fr h' => ?_, fun i c fr h' => ?_⟩
  · intro i j ci fi cj fj p h1 h2 h3 h4
    have z1 : i ∉ vs := fun z => by cases wipeK_in z _ h1
    have z2 : j ∉ vs := fun z => by cases wipeK_in z _ h2
    rw [wipeK_out z1] at h1
    rw [wipeK_out z2] at h2
    rw [wipe_out z1] at h3
    rw [wipe_out z2] at h4
    exact r.inj i j _ _ _ _ p h1 h2 h3 h4
  · have z1 : i ∉ vs := fun z => by cases wipeK_in z _ h'
    rw [wipeK_out z1] at h'
    obtain ⟨v, d, h1, h2, h3⟩ := r.im i fr h'
    exact ⟨v, d, by rw [wipe_out z1]; exact h1, h2, h3.weak fun a y => (fm_wipe h).mpr y⟩
  · have z1 : i ∉ vs := fun z => by cases wipeK_in z _ h'
    rw [wipeK_out z1] at h'
    obtain ⟨v, d, h1, h2, h3, h4⟩ := r.ow i c fr h'
    exact ⟨v, d, by rw [wipe_out z1]; exact h1, h2, h3, h4.map (fun o e => e) fun _ _ x => x.weak fun a y => (fm_wipe h).mpr y⟩
/-- a new list at p and what is walked, kept in mind -/
def Fm.with (f : Fm) (P : List Addr) (g : List (List V × List Dt × Bool)) : Fm := { f with P := P ++ f.P, Γ := g ++ f.Γ }
theorem R.addG {vs : List V} {es : List Dt} {fr : Bool} (r : R K f Δ ρ σ H) (x : RpA K (FM f Δ σ true fr) H vs es) : R K { f with Γ := (vs, es, fr) :: f.Γ } Δ ρ σ H := by
  refine ⟨r.ext, r.g0, r.lσ, r.lρ, r.inj, r.pin, fun g hg => ?_, r.im, r.ow⟩
  rcases List.mem_cons.mp hg with e | h
  · subst e; exact x
  · exact r.gh g h
theorem R.dropG {g : List V × List Dt × Bool} {Γ : List (List V × List Dt × Bool)} (r : R K { f with Γ := g :: Γ } Δ ρ σ H) : R K { f with Γ := Γ } Δ ρ σ H :=
  ⟨r.ext, r.g0, r.lσ, r.lρ, r.inj, r.pin, fun g hg => r.gh g (List.mem_cons_of_mem _ hg), r.im, r.ow⟩
theorem R.addP {p : Addr} {o : HO} (r : R K f Δ ρ σ H) (np : H p = none) (m : Mutb o) : R K { f with P := p :: f.P } Δ ρ σ (upd H p o) := by
  obtain ⟨f1, f2, f3⟩ := r.fresh np
  have key : ∀ {fr : Bool} {v : V} {d : Dt}, Rp K (FM f Δ σ true fr) H v d → Rp K (FM { f with P := p :: f.P } Δ σ true fr) (upd H p o) v d := fun h =>
    h.mono (same_upd np) fun a fa na => ⟨fun _ => ⟨(fa.1 rfl).1, fun z => by
      rcases List.mem_cons.mp z with e | h
      · exact na (e ▸ np)
      · exact (fa.1 rfl).2 h⟩, fa.2⟩
  refine ⟨r.ext.trans (same_upd np), r.g0, r.lσ, r.lρ, r.inj, fun a ha => ?_, fun g hg => (r.gh g hg).map fun _ _ x => key x, fun i fr h => ?_, fun i c fr h => ?_⟩
  · rcases List.mem_cons.mp ha with e | h
    · subst e
      exact ⟨⟨o, upd_same, m⟩, f1⟩
    · obtain ⟨⟨u, hu, mu⟩, no⟩ := r.pin a h
      exact ⟨⟨u, same_upd np _ _ hu, mu⟩, no⟩
  · obtain ⟨v, d, h1, h2, h3⟩ := r.im i fr h
    exact ⟨v, d, h1, h2, key h3⟩
  · obtain ⟨v, d, h1, h2, h3, h4⟩ := r.ow i c fr h
    exact ⟨v, d, h1, h2, h3, h4.map (fun o e => same_upd np _ _ e) fun _ _ x => key x⟩
end

def lcE (h : Dt → List Dt → O (List Dt)) (gt : List Dt → O Bool) (ge : Gd) (ρ : List Dt) : List Dt → O (List Dt)
  | [] => .ok []
  | d :: ds => bnd (h d ρ) fun ρ' => bnd (gt ρ') fun b => if b then bnd (ge ρ') fun e => bnd (lcE h gt ge ρ ds) fun es => .ok (e :: es) else lcE h gt ge ρ ds
def gLc (gi : List Dt → O (List Dt)) (h : Dt → List Dt → O (List Dt)) (gt : List Dt → O Bool) (ge : Gd) : Gd := fun ρ => bnd (gi ρ) fun ds => if ds.length ≤ 100000 then (match lcE h gt ge ρ ds with
  | .ok es => .ok (.list es)
  | _ => .bad) else .bad
def gYes : List Dt → O Bool := fun _ => .ok true
theorem bnd_inv {α β : Type} {x : O α} {k : α → O β} {z : β} (h : bnd x k = .ok z) : ∃ a, x = .ok a ∧ k a = .ok z := by
  cases x with
  | bad => cases h
  | ex e => cases h
  | ok a => exact ⟨a, rfl, h⟩

theorem se_lc {K : PySem.W.Frag} {W : Wt} {Δ : List Kd} {wi : TI} {g : TG} {tt : TT} {te : TE} {vs sl : List Nat} {b fr fr' : Bool} {gi : List Dt → O (List Dt)} {h : Dt → List Dt → O (List Dt)} {TK : Bool → List Kd → List Kd} {gt : List Dt → O Bool} {ge : Gd} {n : Nat}
    (hi : SI K W Δ wi b fr gi) (hg : GJ K n g sl h TK) (hn : Δ.length = n) (hsl : ∀ i ∈ sl, i ∈ vs) (no : noOwn Δ vs = true) (ht : ST K W0 (TK fr (wipeK Δ vs)) tt gt) (he : SE K W0 (TK fr (wipeK Δ vs)) te (.v true fr') ge) :
    SE K W Δ (tLc wi g tt te vs) (.new .l fr') (gLc gi h gt ge) := fun f ρ σ H Q r q => by
  refine hi f ρ σ H _ r ?_
  unfold gLc at q
  cases e1 : gi ρ with
  | bad => rw [e1] at q; exact q
  | ex z => rw [e1] at q; exact q
  | ok ds =>
    rw [e1, bnd_ok] at q
    by_cases hl : ds.length ≤ 100000
    · rw [if_pos hl] at q
      cases ea : lcE h gt ge ρ ds with
      | bad => rw [ea] at q; exact q.elim
      | ex z => rw [ea] at q; exact q.elim
      | ok all =>
        rw [ea] at q
        intro J H1 pf gv ge0 s1 hb hpf x1 sc D nD
        -- the frame within
        have r1 := (((r.mono s1).addP (o := .lst []) nD trivial).addG (fr := fr) (x1.mono (same_upd nD) fun a fa na => ⟨fun _ => ⟨(fa.1 rfl).1, fun z => by
          rcases List.mem_cons.mp z with e | h
          · exact na (e ▸ nD)
          · exact (fa.1 rfl).2 h⟩, fa.2⟩))
        generalize hf1 : ({ f with P := D :: f.P, Γ := (gv, ge0, fr) :: f.Γ } : Fm) = f1 at r1
        have r1 : R K f1 Δ ρ σ (upd H1 D (.lst [])) := by rw [← hf1]; rw [← hf1] at r1; exact r1
        have dP : D ∈ f1.P := by rw [← hf1]; exact List.mem_cons_self
        have gG : (gv, ge0, fr) ∈ f1.Γ := by rw [← hf1]; exact List.mem_cons_self
        have h0 : f1.H0 D = none := by rw [← hf1]; exact ((r.mono s1).fresh nD).2.2
        have fmf : ∀ {fr : Bool} {a : Addr}, FM f1 Δ σ true fr a → FM f Δ σ true fr a ∧ a ≠ D := fun {fr a} y => by
          rw [← hf1] at y
          exact ⟨⟨fun e => ⟨(y.1 e).1, fun z => (y.1 e).2 (List.mem_cons_of_mem _ z)⟩, y.2⟩, fun z => (y.1 rfl).2 (z ▸ List.mem_cons_self)⟩
        have noSl : ∀ i ∈ sl, ∀ c fr, (wipeK Δ vs)[i]? ≠ some (.own c fr) := fun i hi c fr e => by cases wipeK_in (hsl i hi) _ e
        refine ⟨fun i m H' => m = ds.length - i ∧ i ≤ ds.length ∧ ∃ acc es rest, H' D = some (.lst acc) ∧ R K f1 Δ ρ σ H' ∧ RpA K (FM f1 Δ σ true fr') H' acc es ∧ acc.length ≤ i ∧ lcE h gt ge ρ (ds.drop i) = .ok rest ∧ all = es ++ rest ∧ Same H H' ∧ (∀ q, pf = some q → H' q.1 = some q.2),
          ⟨ds.length, by simp, Nat.zero_le _, [], [], all, upd_same, r1, .nil, Nat.le_refl _, ea, rfl, s1.trans (same_upd nD), fun q eq => same_upd nD _ _ (hpf q eq)⟩, ?_⟩
        rintro i m H2 ⟨rfl, hi2, acc, es, rest, hD, r2, x2, la, er, eall, sHH, hpf2⟩
        have stand : (∀ q, pf = some q → H2 q.1 = some q.2) ∧ ∃ F, RpA K F H2 gv ge0 := ⟨hpf2, _, r2.gh _ gG⟩
        by_cases hlt : i < ds.length
        · refine .inr ⟨sc.goes i H2 hlt stand, fun H' => i + 1 ≤ ds.length ∧ ∃ acc es rest, H' D = some (.lst acc) ∧ R K f1 Δ ρ σ H' ∧ RpA K (FM f1 Δ σ true fr') H' acc es ∧ acc.length ≤ i + 1 ∧ lcE h gt ge ρ (ds.drop (i + 1)) = .ok rest ∧ all = es ++ rest ∧ Same H H' ∧ (∀ q, pf = some q → H' q.1 = some q.2),
            fun H' w => ⟨ds.length - (i + 1), by omega, rfl, w⟩, fun x H3 hy => ?_⟩
          obtain ⟨s3, hx⟩ := sc.yields i H2 x H3 hlt stand hy
          obtain ⟨d, hd, x3⟩ := hx _ (r2.gh _ gG)
          have edrop : ds.drop i = d :: ds.drop (i + 1) := by
            have hd' := (List.getElem?_eq_some_iff.mp hd).2
            rw [List.drop_eq_getElem_cons hlt, hd']
          rw [edrop] at er
          unfold lcE at er
          obtain ⟨ρ', eh, er⟩ := bnd_inv er
          obtain ⟨c, ec, er⟩ := bnd_inv er
          have r3 := r2.mono s3
          refine hg f1 (wipeK Δ vs) ρ (wipe σ vs) H3 x d fr _ (by rw [wipeK_len]; exact hn) (r3.wipe no) (x3.weak fun a y => (fm_wipe no).mpr y) ?_
          rw [eh]
          intro σ4 t4
          refine ⟨?_, ?_⟩
          · rw [wipe_eq (σ' := σ4) (σ := wipe σ vs) (by rw [t4.r.lσ, t4.len, wipeK_len, wipe_length, r.lσ]) fun i hi => (t4.keep i fun z => hi (hsl i z)).2]
            exact wipe_eq (wipe_length σ vs) fun i hi => wipe_out hi
          · refine ht f1 ρ' σ4 H3 _ t4.r ?_
            rw [ec]
            intro H4 s4
            cases c with
            | false =>
              show (if false = true then _ else _)
              rw [if_neg Bool.false_ne_true]
              have er : lcE h gt ge ρ (ds.drop (i + 1)) = .ok rest := er
              have s24 := s3.trans s4
              exact ⟨hlt, acc, es, rest, s24 _ _ hD, r2.mono s24, x2.same s24, by omega, er, eall, sHH.trans s24, fun q eq => s24 _ _ (hpf2 q eq)⟩
            | true =>
              show (if true = true then _ else _)
              rw [if_pos rfl]
              have er : bnd (ge ρ') (fun e => bnd (lcE h gt ge ρ (ds.drop (i + 1))) fun es => .ok (e :: es)) = .ok rest := er
              obtain ⟨e, ee, er⟩ := bnd_inv er
              obtain ⟨es', ees, er⟩ := bnd_inv er
              cases er
              refine he f1 ρ' σ4 H4 _ (t4.r.mono s4) ?_
              rw [ee]
              intro y H5 s5 x5
              have s25 := (s3.trans s4).trans s5
              have hD5 := s25 _ _ hD
              refine ⟨acc, hD5, Nat.lt_of_lt_of_le (show acc.length < 100001 by omega) (by decide), hlt, acc ++ [y], es ++ [e], es', upd_same, (r2.mono s25).updAt hD5 trivial trivial h0 (fun z => ((r2.pin D dP).2 z)) dP, ?_, by rw [List.length_append, List.length_singleton]; omega, ees, by rw [eall]; simp, ?_, fun q eq => ?_⟩
              · refine ((x2.same s25).updM hD5 trivial fun a y z => (y.1 rfl).2 (z ▸ dP)).append (.cons ?_ .nil)
                refine Rp.updM hD5 trivial (fun a y z => (y.1 rfl).2 (z ▸ dP)) (x5.weak fun a y => (fm_wipe no).mp (t4.fm' noSl y))
              · intro a o ha
                have na : a ≠ D := fun z => by
                  have z1 := s1 _ _ ha
                  rw [z, nD] at z1
                  cases z1
                rw [upd_ne na]
                exact s25 _ _ (sHH _ _ ha)
              · have nq : q.1 ≠ D := fun z => by
                  have z1 := hpf q eq
                  rw [z, nD] at z1
                  cases z1
                rw [upd_ne nq]
                exact s25 _ _ (hpf2 q eq)
        · have ei : i = ds.length := by omega
          subst ei
          refine .inl ⟨sc.stops H2 stand, ?_⟩
          rw [List.drop_length] at er
          cases er
          rw [List.append_nil] at eall
          subst eall
          refine q D H2 (s1.free nD) sHH ⟨acc, _, rfl, hD, x2.weak fun a y => fmf y⟩
    · rw [if_neg hl] at q
      exact q.elim
end Sim
end T_SimE

section T_SimF
set_option Elab.async false
set_option linter.all false
set_option maxRecDepth 100000
/-! SimF: statements, calls, defs. -/
namespace Sim
open PySem PySem.Spec L2
open PyProof.Rows hiding St

inductive Fl where
  | nx (ρ : List Dt) | rt (d : Dt) | bk (ρ : List Dt) | ct (ρ : List Dt)
abbrev Gs := List Dt → O Fl

def PoS (K : PySem.W.Frag) (W : Wt) (L : Bool) (f : Fm) (Δn Δb Δc : List Kd) (o : O Fl) (E : Ends) : Prop := match o with
  | .bad => False
  | .ex e => ∀ σ' H', Same f.H0 H' → W e σ' H'
  | .ok (.nx ρ) => ∀ σ' H', R K f Δn ρ σ' H' → E.nx σ' H'
  | .ok (.rt d) => if L = true then ∀ p H', f.H0 p = none → Same f.H0 H' → OwC K .l (fun a => f.G a ∧ a ≠ p) H' p d → E.rt (.ref p) H' else ∀ v H', Same f.H0 H' → Rp K f.G H' v d → E.rt v H'
  | .ok (.bk ρ) => ∀ σ' H', R K f Δb ρ σ' H' → E.bk σ' H'
  | .ok (.ct ρ) => ∀ σ' H', R K f Δc ρ σ' H' → E.ct σ' H'
def SS (K : PySem.W.Frag) (W : Wt) (L : Bool) (Δ Δn Δb Δc : List Kd) (ts : TS) (g : Gs) : Prop := ∀ f ρ σ H E, R K f Δ ρ σ H → PoS K W L f Δn Δb Δc (g ρ) E → ts E σ H

/-! ### closures -/
def gNext : Gs := fun ρ => .ok (.nx ρ)
def gSeqS (a b : Gs) : Gs := fun ρ => match a ρ with
  | .ok (.nx ρ') => b ρ'
  | o => o
def gRet (g : Gd) : Gs := fun ρ => bnd (g ρ) fun d => .ok (.rt d)
def gRetN : Gs := fun _ => .ok (.rt .none)
def gAsg (g : Gd) (h : Dt → List Dt → O (List Dt)) : Gs := fun ρ => bnd (g ρ) fun d => match h d ρ with
  | .ok ρ' => .ok (.nx ρ')
  | _ => .bad
def gSet (i : Nat) (g : Gd) : Gs := fun ρ => bnd (g ρ) fun d => .ok (.nx (ρ.set i d))
def gPar (i j : Nat) (g : List Dt → O (List Dt)) : Gs := fun ρ => bnd (g ρ) fun ds => match ds with
  | [a, b] => .ok (.nx ((ρ.set i a).set j b))
  | _ => .bad
def gAug (h : Int → Int → Int) (i : Nat) (g : Gd) : Gs := fun ρ => match ρ[i]? with
  | some (.int a) => bnd (g ρ) fun d => (match d with
    | .int b => .ok (.nx (ρ.set i (.int (h a b))))
    | _ => .bad)
  | _ => .bad
def gDrop (g : Gd) : Gs := fun ρ => bnd (g ρ) fun _ => .ok (.nx ρ)
def gApp (i : Nat) (g : Gd) : Gs := fun ρ => match ρ[i]? with
  | some (.list ds) => bnd (g ρ) fun d => if ds.length < 100000 then .ok (.nx (ρ.set i (.list (ds ++ [d])))) else .bad
  | _ => .bad
def gExt (i : Nat) (g : Gd) : Gs := fun ρ => match ρ[i]? with
  | some (.list ds) => bnd (g ρ) fun d => (match d with
    | .list es => if ds.length + es.length ≤ 100000 then .ok (.nx (ρ.set i (.list (ds ++ es)))) else .bad
    | _ => .bad)
  | _ => .bad
def gSetI (i : Nat) (ge gi : Gd) : Gs := fun ρ => bnd (ge ρ) fun d => match ρ[i]? with
  | some (.list ds) => bnd (gi ρ) fun k => (match k with
    | .int k => (match ixN ds.length k with
      | some j => .ok (.nx (ρ.set i (.list (ds.set j d))))
      | none => .bad)
    | _ => .bad)
  | _ => .bad
def gIfS (t : List Dt → O Bool) (a b : Gs) : Gs := fun ρ => bnd (t ρ) fun c => if c then a ρ else b ρ
def gWhile (t : List Dt → O Bool) (b : Gs) : Nat → Gs
  | 0 => fun _ => .bad
  | n + 1 => fun ρ => bnd (t ρ) fun c => if c then (bnd (b ρ) fun fl => match fl with
    | .nx ρ' => gWhile t b n ρ'
    | .ct ρ' => gWhile t b n ρ'
    | .bk ρ' => .ok (.nx ρ')
    | .rt d => .ok (.rt d)) else .ok (.nx ρ)
def forE (h : Dt → List Dt → O (List Dt)) (b : Gs) : List Dt → Gs
  | [] => fun ρ => .ok (.nx ρ)
  | d :: ds => fun ρ => match h d ρ with
    | .ok ρ1 => bnd (b ρ1) fun fl => (match fl with
      | .nx ρ' => forE h b ds ρ'
      | .ct ρ' => forE h b ds ρ'
      | .bk ρ' => .ok (.nx ρ')
      | .rt d => .ok (.rt d))
    | _ => .bad
def gFor (gi : List Dt → O (List Dt)) (h : Dt → List Dt → O (List Dt)) (b : Gs) : Gs := fun ρ => bnd (gi ρ) fun ds => forE h b ds ρ

section
variable {K : PySem.W.Frag} {W : Wt} {Δ Δ1 Δ2 Δn Δb Δc : List Kd} {te ti : TE} {tt : TT} {t u : TS} {ta : TA} {g ge gi : Gd} {gt : List Dt → O Bool} {gA : List Dt → O (List Dt)} {ga gb : Gs} {fr fr' av av' L : Bool} {i j : Nat}

theorem SS.pre (h : SS K W L Δ1 Δn Δb Δc t ga) (l : leA Δ Δ1 = true) : SS K W L Δ Δn Δb Δc t ga := fun f ρ σ H E r q => h f ρ σ H E (r.weak l) q
theorem SS.post {Δn' Δb' Δc' : List Kd} (h : SS K W L Δ Δn Δb Δc t ga) (ln : leA Δn Δn' = true) (lb : leA Δb Δb' = true) (lc : leA Δc Δc' = true) : SS K W L Δ Δn' Δb' Δc' t ga := fun f ρ σ H E r q => h f ρ σ H E r <| by
  cases e : ga ρ with
  | bad => rw [e] at q; exact q
  | ex z => rw [e] at q; exact q
  | ok fl =>
    rw [e] at q
    cases fl with
    | nx ρ' => exact fun σ' H' r => q σ' H' (r.weak ln)
    | rt d => exact q
    | bk ρ' => exact fun σ' H' r => q σ' H' (r.weak lb)
    | ct ρ' => exact fun σ' H' r => q σ' H' (r.weak lc)
theorem s_next : SS K W L Δ Δ Δb Δc tNext gNext := fun f ρ σ H E r q => q σ H r
theorem s_seq (h1 : SS K W L Δ Δ1 Δb Δc t ga) (h2 : SS K W L Δ1 Δn Δb Δc u gb) : SS K W L Δ Δn Δb Δc (tSeq t u) (gSeqS ga gb) := fun f ρ σ H E r q => h1 f ρ σ H _ r <| by
  unfold gSeqS at q
  cases e : ga ρ with
  | bad => rw [e] at q; exact q
  | ex z => rw [e] at q; exact q
  | ok fl =>
    rw [e] at q
    cases fl with
    | nx ρ' => exact fun σ' H' r' => h2 f ρ' σ' H' E r' q
    | rt d => exact q
    | bk ρ' => exact q
    | ct ρ' => exact q
theorem s_ret (h : SE K W Δ te (.v av true) g) : SS K W false Δ Δn Δb Δc (tRet te) (gRet g) := fun f ρ σ H E r q => h f ρ σ H _ r <| by
  unfold gRet at q
  cases e : g ρ with
  | bad => rw [e] at q; exact q
  | ex z => rw [e] at q; exact fun H' s => q σ H' (r.ext.trans s)
  | ok d =>
    rw [e] at q
    exact fun v H' s x => q v H' (r.ext.trans s) (x.weak fun a fa => fa.2 rfl)
theorem s_retL (h : SE K W Δ te (.new .l true) g) : SS K W true Δ Δn Δb Δc (tRet te) (gRet g) := fun f ρ σ H E r q => h f ρ σ H _ r <| by
  unfold gRet at q
  cases e : g ρ with
  | bad => rw [e] at q; exact q
  | ex z => rw [e] at q; exact fun H' s => q σ H' (r.ext.trans s)
  | ok d =>
    rw [e] at q
    exact fun p H' np s x => q p H' (r.fresh np).2.2 (r.ext.trans s) (x.map (fun _ e => e) fun _ _ y => y.weak fun a fa => ⟨fa.1.2 rfl, fa.2⟩)
/-- return of an owned name -/
theorem s_retO (hk : Δ[i]? = some (.own .l true)) : SS K W true Δ Δn Δb Δc (tRet (tVar i)) (gRet (gVar i)) := fun f ρ σ H E r q => by
  obtain ⟨p, d, h1, h2, h3, h4⟩ := r.ow i .l true hk
  unfold gRet gVar at q
  rw [h2, bnd_ok] at q
  exact ⟨_, h1, q p H h3 r.ext (h4.map (fun _ e => e) fun _ _ y => y.weak fun a fa => ⟨fa.2 rfl, fun z => (fa.1 rfl).1 (z ▸ ⟨i, .l, true, hk, h1⟩)⟩)⟩
def gPurV (i : Nat) : Gd := gPurN (gVar i)
theorem s_retOp (hk : Δ[i]? = some (.own .l fr)) : SS K W true Δ Δn Δb Δc (tRet (tVar i)) (gRet (gPurV i)) := fun f ρ σ H E r q => by
  obtain ⟨p, d, h1, h2, h3, vs, ds, ed, h4, h5⟩ := r.ow i .l fr hk
  subst ed
  unfold gRet gPurV gPurN gVar at q
  rw [h2] at q
  have q : PoS K W true f Δn Δb Δc (bnd (if pureIn (.list ds) = true then O.ok (PyData.list ds) else O.bad) fun d => O.ok (Fl.rt d)) E := q
  by_cases pp : pureIn (.list ds) = true
  · rw [if_pos pp] at q
    exact ⟨_, h1, q p H h3 r.ext ⟨vs, ds, rfl, h4, h5.pure pp⟩⟩
  · rw [if_neg pp] at q
    exact q.elim
theorem s_retN : SS K W false Δ Δn Δb Δc tRetN gRetN := fun f ρ σ H E r q => q .non H r.ext .non
theorem s_drop {k : Rk} (h : SE K W Δ te k g) : SS K W L Δ Δ Δb Δc (tDrop te) (gDrop g) := fun f ρ σ H E r q => h f ρ σ H _ r <| by
  unfold gDrop at q
  cases e : g ρ with
  | bad => rw [e] at q; exact q
  | ex z => rw [e] at q; exact fun H' s => q σ H' (r.ext.trans s)
  | ok d =>
    rw [e] at q
    cases k with
    | v av fr => exact fun v H' s x => q σ H' (r.mono s)
    | o fr => exact fun p H' vs ds e s _ _ _ => q σ H' (r.mono s)
    | new c fr => exact fun p H' np s x => q σ H' (r.mono s)
theorem s_set (hi : i < Δ.length) (h : SE K W Δ te (.v true fr) g) : SS K W L Δ (Δ.set i (.im fr)) Δb Δc (tAsg te (gName i)) (gSet i g) := fun f ρ σ H E r q => h f ρ σ H _ r <| by
  unfold gSet at q
  cases e : g ρ with
  | bad => rw [e] at q; exact q
  | ex z => rw [e] at q; exact fun H' s => q σ H' (r.ext.trans s)
  | ok d =>
    rw [e] at q
    exact fun v H' s x => q _ H' ((r.mono s).setIm hi x)
theorem s_setO {c : Ct} (hi : i < Δ.length) (h : SE K W Δ te (.new c fr) g) : SS K W L Δ (Δ.set i (.own c fr)) Δb Δc (tAsg te (gName i)) (gSet i g) := fun f ρ σ H E r q => h f ρ σ H _ r <| by
  unfold gSet at q
  cases e : g ρ with
  | bad => rw [e] at q; exact q
  | ex z => rw [e] at q; exact fun H' s => q σ H' (r.ext.trans s)
  | ok d =>
    rw [e] at q
    exact fun p H' np s x => q _ H' (r.setOwn hi np s x)
theorem s_asg {gg : TG} {sl : List Nat} {n : Nat} {hh : Dt → List Dt → O (List Dt)} {TK : Bool → List Kd → List Kd} (hn : Δ.length = n) (h : SE K W Δ te (.v true fr) g) (hg : GJ K n gg sl hh TK) : SS K W L Δ (TK fr Δ) Δb Δc (tAsg te gg) (gAsg g hh) := fun f ρ σ H E r q => h f ρ σ H _ r <| by
  unfold gAsg at q
  cases e : g ρ with
  | bad => rw [e] at q; exact q
  | ex z => rw [e] at q; exact fun H' s => q σ H' (r.ext.trans s)
  | ok d =>
    rw [e, bnd_ok] at q
    intro v H' s x
    refine hg f Δ ρ σ H' v d fr _ hn (r.mono s) x ?_
    cases e2 : hh d ρ with
    | bad => rw [e2] at q; exact q.elim
    | ex z => rw [e2] at q; exact q.elim
    | ok ρ' =>
      rw [e2] at q
      exact fun σ' t => q σ' H' t.r
theorem s_par (hi : i < Δ.length) (hj : j < Δ.length) (h : SA K W Δ ta true fr gA) : SS K W L Δ ((Δ.set i (.im fr)).set j (.im fr)) Δb Δc (tPar i j ta) (gPar i j gA) := fun f ρ σ H E r q => h f ρ σ H _ r <| by
  unfold gPar at q
  cases e : gA ρ with
  | bad => rw [e] at q; exact q
  | ex z => rw [e] at q; exact fun H' s => q σ H' (r.ext.trans s)
  | ok ds =>
    rw [e, bnd_ok] at q
    intro vs H' s x
    match ds, x, q with
    | [], _, q => exact q.elim
    | [_], _, q => exact q.elim
    | [a, b], .cons x1 (.cons x2 .nil), q =>
      refine ⟨_, _, rfl, q _ H' ?_⟩
      have r1 := (r.mono s).setIm (fr := fr) hi x1
      refine r1.setIm (by rw [List.length_set]; exact hj) (x2.weak fun a fa => ⟨fun _ => ⟨fun z => (fa.1 rfl).1 ?_, (fa.1 rfl).2⟩, fa.2⟩)
      obtain ⟨k, c, frk, h1, h2⟩ := z
      by_cases z : i = k
      · subst z
        rw [List.getElem?_set_self hi] at h1
        cases h1
      · rw [List.getElem?_set_ne z] at h1 h2
        exact ⟨k, c, frk, h1, h2⟩
    | _ :: _ :: _ :: _, _, q => exact q.elim
theorem s_aug {hf : Int → Int → Int} (hk : Δ[i]? = some (.im fr)) (h : SE K W Δ te (.v av' fr') g) : SS K W L Δ (Δ.set i (.im true)) Δb Δc (tAug i te (ipI hf)) (gAug hf i g) := fun f ρ σ H E r q => by
  obtain ⟨v, d, h1, h2, h3⟩ := r.im i fr hk
  have hi : i < Δ.length := (List.getElem?_eq_some_iff.mp hk).1
  unfold gAug at q
  rw [h2] at q
  cases h3 with
  | int a =>
    refine ⟨_, h1, h f ρ σ H _ r ?_⟩
    simp only at q
    cases e : g ρ with
    | bad => rw [e] at q; exact q
    | ex z => rw [e] at q; exact fun H' s => q σ H' (r.ext.trans s)
    | ok d =>
      rw [e, bnd_ok] at q
      intro v H' s x
      cases d with
      | int b =>
        rw [rpInt x]
        exact ⟨a, b, rfl, rfl, q _ H' ((r.mono s).setIm hi (.int _))⟩
      | _ => exact q.elim
  | non => exact q.elim
  | bl => exact q.elim
  | str => exact q.elim
  | lst => exact q.elim
  | fz => exact q.elim
  | tup => exact q.elim
theorem s_app (hk : Δ[i]? = some (.own .l fr)) (h : SE K W Δ te (.v true fr') g) : SS K W L Δ (Δ.set i (.own .l (fr && fr'))) Δb Δc (tDrop (tBM K "list" rAppend (tVar i) (tCons te tNil))) (gApp i g) := fun f ρ σ H E r q => by
  obtain ⟨p, d, h1, h2, h3, vs, ds, ed, h4, h5⟩ := r.ow i .l fr hk
  subst ed
  unfold gApp at q
  rw [h2] at q
  simp only at q
  refine ⟨_, h1, .inl ⟨rfl, _, .inl (.inl h4)⟩, h f ρ σ H _ r ?_⟩
  cases e : g ρ with
  | bad => rw [e] at q; exact q
  | ex z => rw [e] at q; exact fun H' s => q σ H' (r.ext.trans s)
  | ok d =>
    rw [e, bnd_ok] at q
    intro v H1 s x
    by_cases hl : ds.length < 100000
    · rw [if_pos hl] at q
      have hp := s _ _ h4
      have hl2 : vs.length < sizeLine := by rw [h5.length]; exact Nat.lt_of_lt_of_le hl (by decide)
      refine ⟨p, vs, v, rfl, rfl, hp, hl2, q σ _ ?_⟩
      refine (r.mono s).updOwn hk h1 (c' := .l) (show Mutb (.lst _) from trivial) ⟨_, _, rfl, upd_same, ?_⟩
      have nf : ∀ {fr : Bool} (a : Addr), FM f Δ σ true fr a → a ≠ p := fun a fa z => (fa.1 rfl).1 (z ▸ ⟨i, .l, _, hk, h1⟩)
      exact (((h5.same s).updM hp trivial fun a fa => nf a fa).weak fun a y => y.weak id fun h => (Bool.and_eq_true_iff.mp h).1).append
        (.cons ((Rp.updM hp trivial (fun a fa => nf a fa) x).weak fun a y => y.weak id fun h => (Bool.and_eq_true_iff.mp h).2) .nil)
    · rw [if_neg hl] at q
      exact q.elim
theorem s_ext (hk : Δ[i]? = some (.own .l fr)) (h : SE K W Δ te (.new .l fr') g) : SS K W L Δ (Δ.set i (.own .l (fr && fr'))) Δb Δc (tDrop (tBM K "list" rExtend (tVar i) (tCons te tNil))) (gExt i g) := fun f ρ σ H E r q => by
  obtain ⟨p, d, h1, h2, h3, vs, ds, ed, h4, h5⟩ := r.ow i .l fr hk
  subst ed
  unfold gExt at q
  rw [h2] at q
  simp only at q
  refine ⟨_, h1, .inl ⟨rfl, _, .inl (.inl h4)⟩, h f ρ σ H _ r ?_⟩
  cases e : g ρ with
  | bad => rw [e] at q; exact q
  | ex z => rw [e] at q; exact fun H' s => q σ H' (r.ext.trans s)
  | ok d =>
    rw [e, bnd_ok] at q
    intro b H1 nb s x
    obtain ⟨ws, es, ed, hb, x⟩ := x
    subst ed
    simp only at q
    by_cases hl : ds.length + es.length ≤ 100000
    · rw [if_pos hl] at q
      have hp := s _ _ h4
      have hl2 : vs.length + ws.length ≤ sizeLine := by rw [h5.length, x.length]; exact sz_le hl
      refine ⟨p, b, vs, ws, rfl, rfl, hp, hb, hl2, q σ _ ?_⟩
      refine (r.mono s).updOwn hk h1 (c' := .l) (show Mutb (.lst _) from trivial) ⟨_, _, rfl, upd_same, ?_⟩
      have nf : ∀ {fr : Bool} (a : Addr), FM f Δ σ true fr a → a ≠ p := fun a fa z => (fa.1 rfl).1 (z ▸ ⟨i, .l, _, hk, h1⟩)
      exact (((h5.same s).updM hp trivial fun a fa => nf a fa).weak fun a y => y.weak id fun h => (Bool.and_eq_true_iff.mp h).1).append
        ((x.weak fun a y => y.1).updM hp trivial (fun a fa => nf a fa) |>.weak fun a y => y.weak id fun h => (Bool.and_eq_true_iff.mp h).2)
    · rw [if_neg hl] at q
      exact q.elim
theorem s_setI (hk : Δ[i]? = some (.own .l fr)) (h : SE K W Δ te (.v true fr') ge) (h2 : SE K W Δ ti (.v av av') gi) : SS K W L Δ (Δ.set i (.own .l (fr && fr'))) Δb Δc (tAsg te (gSub (tVar i) ti rSetL)) (gSetI i ge gi) := fun f ρ σ H E r q => h f ρ σ H _ r <| by
  obtain ⟨p, d, g1, g2, g3, vs, ds, ed, g4, g5⟩ := r.ow i .l fr hk
  subst ed
  unfold gSetI at q
  cases e : ge ρ with
  | bad => rw [e] at q; exact q
  | ex z => rw [e] at q; exact fun H' s => q σ H' (r.ext.trans s)
  | ok d =>
    rw [e, bnd_ok, g2] at q
    simp only at q
    intro v H1 s x
    refine ⟨_, g1, h2 f ρ σ H1 _ (r.mono s) ?_⟩
    cases e2 : gi ρ with
    | bad => rw [e2] at q; exact q
    | ex z => rw [e2] at q; exact fun H' s2 => q σ H' ((r.ext.trans s).trans s2)
    | ok k =>
      rw [e2, bnd_ok] at q
      intro kv H2 s2 xk
      cases k with
      | int k =>
        simp only at q
        cases ej : ixN ds.length k with
        | none => rw [ej] at q; exact q.elim
        | some j =>
          rw [ej] at q
          rw [rpInt xk]
          have s12 := s.trans s2
          have hp := s12 _ _ g4
          refine ⟨p, vs, k, j, rfl, rfl, hp, by rw [g5.length]; exact ej, q σ _ ?_⟩
          refine (r.mono s12).updOwn hk g1 (c' := .l) (show Mutb (.lst _) from trivial) ⟨_, _, rfl, upd_same, ?_⟩
          have nf : ∀ {fr : Bool} (a : Addr), FM f Δ σ true fr a → a ≠ p := fun a fa z => (fa.1 rfl).1 (z ▸ ⟨i, .l, _, hk, g1⟩)
          exact RpA.set ((Rp.updM hp trivial (fun a fa => nf a fa) (x.same s2)).weak fun a y => y.weak id fun h => (Bool.and_eq_true_iff.mp h).2) j
            (((g5.same s12).updM hp trivial fun a fa => nf a fa).weak fun a y => y.weak id fun h => (Bool.and_eq_true_iff.mp h).1)
      | _ => exact q.elim
theorem s_if (h : ST K W Δ tt gt) (h1 : SS K W L Δ Δn Δb Δc t ga) (h2 : SS K W L Δ Δn Δb Δc u gb) : SS K W L Δ Δn Δb Δc (tIfS tt t u) (gIfS gt ga gb) := fun f ρ σ H E r q => h f ρ σ H _ r <| by
  unfold gIfS at q
  cases e : gt ρ with
  | bad => rw [e] at q; exact q
  | ex z => rw [e] at q; exact fun H' s => q σ H' (r.ext.trans s)
  | ok c =>
    rw [e, bnd_ok] at q
    intro H1 s
    cases c with
    | true => exact h1 f ρ σ H1 E (r.mono s) q
    | false => exact h2 f ρ σ H1 E (r.mono s) q
theorem s_brk : SS K W L Δ Δn Δ Δc tBreak (fun ρ => .ok (.bk ρ)) := fun f ρ σ H E r q => q σ H r
theorem s_cont : SS K W L Δ Δn Δb Δ tCont (fun ρ => .ok (.ct ρ)) := fun f ρ σ H E r q => q σ H r
theorem s_while (n : Nat) (h : ST K W Δ tt gt) (hb : SS K W L Δ Δ Δ Δ t gb) : SS K W L Δ Δ Δb Δc (tWhile tt t) (gWhile gt gb n) := fun f ρ σ H E r q => by
  refine ⟨fun m σ H => ∃ ρ, R K f Δ ρ σ H ∧ PoS K W L f Δ Δb Δc (gWhile gt gb m ρ) E, ⟨n, ρ, r, q⟩, ?_⟩
  rintro m σ1 H1 ⟨ρ1, r1, q1⟩
  cases m with
  | zero => exact q1.elim
  | succ m =>
    refine h f ρ1 σ1 H1 _ r1 ?_
    unfold gWhile at q1
    cases e : gt ρ1 with
    | bad => rw [e] at q1; exact q1
    | ex z => rw [e] at q1; exact fun H' s => q1 σ1 H' (r1.ext.trans s)
    | ok c =>
      rw [e, bnd_ok] at q1
      intro H2 s2
      cases c with
      | false => exact q1 σ1 H2 (r1.mono s2)
      | true =>
        show (if true = true then _ else _)
        rw [if_pos rfl]
        refine ⟨fun σ' H' => ∃ ρ', R K f Δ ρ' σ' H' ∧ PoS K W L f Δ Δb Δc (gWhile gt gb m ρ') E, fun σ' H' w => ⟨m, Nat.lt_succ_self m, w⟩, hb f ρ1 σ1 H2 _ (r1.mono s2) ?_⟩
        have q1 : PoS K W L f Δ Δb Δc (bnd (gb ρ1) fun fl => match fl with | .nx ρ' => gWhile gt gb m ρ' | .ct ρ' => gWhile gt gb m ρ' | .bk ρ' => .ok (.nx ρ') | .rt d => .ok (.rt d)) E := q1
        cases e2 : gb ρ1 with
        | bad => rw [e2] at q1; exact q1
        | ex z => rw [e2] at q1; exact q1
        | ok fl =>
          rw [e2, bnd_ok] at q1
          cases fl with
          | nx ρ' => exact fun σ' H' r' => ⟨ρ', r', q1⟩
          | ct ρ' => exact fun σ' H' r' => ⟨ρ', r', q1⟩
          | bk ρ' => exact q1
          | rt d => exact q1
theorem PoS.toG {f : Fm} {gg : List V × List Dt × Bool} {o : O Fl} {E : Ends} (q : PoS K W L f Δn Δb Δc o E) : PoS K W L { f with Γ := gg :: f.Γ } Δn Δb Δc o E := by
  cases o with
  | bad => exact q
  | ex z => exact q
  | ok fl =>
    cases fl with
    | nx ρ => exact fun σ' H' r => q σ' H' r.dropG
    | rt d => exact q
    | bk ρ => exact fun σ' H' r => q σ' H' r.dropG
    | ct ρ => exact fun σ' H' r => q σ' H' r.dropG
theorem s_for {wi : TI} {gg : TG} {sl : List Nat} {n : Nat} {hh : Dt → List Dt → O (List Dt)} {TK : Bool → List Kd → List Kd} {gI : List Dt → O (List Dt)} (hn : Δ.length = n) (h : SI K W Δ wi false fr gI) (hg : GJ K n gg sl hh TK) (hb : SS K W L (TK fr Δ) Δ Δ Δ t gb) :
    SS K W L Δ Δ Δb Δc (tFor wi gg t) (gFor gI hh gb) := fun f ρ σ H E r q => h f ρ σ H _ r <| by
  unfold gFor at q
  cases e : gI ρ with
  | bad => rw [e] at q; exact q
  | ex z => rw [e] at q; exact fun H' s => q σ H' (r.ext.trans s)
  | ok ds =>
    rw [e, bnd_ok] at q
    intro J H1 pf vs es s1 hpf _ x sc
    have hpf := hpf rfl
    subst hpf
    have r1 := (r.mono s1).addG (fr := fr) x
    have q1 := q.toG (gg := (vs, es, fr))
    generalize hf1 : ({ f with Γ := (vs, es, fr) :: f.Γ } : Fm) = f1 at r1 q1
    have gG : (vs, es, fr) ∈ f1.Γ := by rw [← hf1]; exact List.mem_cons_self
    refine ⟨fun i m σ H => m = ds.length - i ∧ i ≤ ds.length ∧ ∃ ρ, R K f1 Δ ρ σ H ∧ PoS K W L f1 Δ Δb Δc (forE hh gb (ds.drop i) ρ) E, ⟨ds.length, by simp, Nat.zero_le _, ρ, r1, q1⟩, ?_⟩
    rintro i m σ2 H2 ⟨rfl, hi, ρ2, r2, q2⟩
    have stand : (∀ q, (none : Option (Addr × HO)) = some q → H2 q.1 = some q.2) ∧ ∃ F, RpA K F H2 vs es := ⟨fun _ e => (nomatch e), _, r2.gh _ gG⟩
    by_cases hlt : i < ds.length
    · refine .inr ⟨sc.goes i H2 hlt stand, fun σ' H' => i + 1 ≤ ds.length ∧ ∃ ρ, R K f1 Δ ρ σ' H' ∧ PoS K W L f1 Δ Δb Δc (forE hh gb (ds.drop (i + 1)) ρ) E, fun σ' H' w => ⟨ds.length - (i + 1), by omega, rfl, w⟩, fun x H3 hy => ?_⟩
      obtain ⟨s3, hx⟩ := sc.yields i H2 x H3 hlt stand hy
      obtain ⟨d, hd, x3⟩ := hx _ (r2.gh _ gG)
      have edrop : ds.drop i = d :: ds.drop (i + 1) := by
        have hd' := (List.getElem?_eq_some_iff.mp hd).2
        rw [List.drop_eq_getElem_cons hlt, hd']
      rw [edrop] at q2
      unfold forE at q2
      refine hg f1 Δ ρ2 σ2 H3 x d fr _ hn (r2.mono s3) x3 ?_
      cases eh : hh d ρ2 with
      | bad => rw [eh] at q2; exact q2.elim
      | ex z => rw [eh] at q2; exact q2.elim
      | ok ρ3 =>
        rw [eh] at q2
        simp only at q2
        intro σ4 t4
        refine hb f1 ρ3 σ4 H3 _ t4.r ?_
        cases e2 : gb ρ3 with
        | bad => rw [e2] at q2; exact q2
        | ex z => rw [e2] at q2; exact q2
        | ok fl =>
          rw [e2, bnd_ok] at q2
          cases fl with
          | nx ρ' => exact fun σ' H' r' => ⟨hlt, ρ', r', q2⟩
          | ct ρ' => exact fun σ' H' r' => ⟨hlt, ρ', r', q2⟩
          | bk ρ' => exact q2
          | rt d => exact q2
    · have ei : i = ds.length := by omega
      subst ei
      rw [List.drop_length] at q2
      exact .inl ⟨sc.stops H2 stand, q2 σ2 H2 r2⟩
end

/-! ### promises, calls -/
def Wcls (mg : Str → Option Value) (e : Exn) (E : XK) (H' : Hp) : Prop := ∀ C, mg e.cls = some (.ref C) → match e.arg with
  | none => E (.ref C) none H'
  | some m => ∀ d, H' d = some (.xd [("moment", .int m)]) → E (.ref C) (some d) H'
def spG (K : PySem.W.Frag) (mg : Str → Option Value) (n : Nat) (g : List Dt → O Dt) : Sp := fun vs H Q E => ∃ ds, vs.length = n ∧ RpA K (fun _ => True) H vs ds ∧ (match g ds with
  | .bad => False
  | .ex e => ∀ H', Same H H' → Wcls mg e E H'
  | .ok d => ∀ v H', Same H H' → Rp K (fun a => H a = none) H' v d → Q v H')
/-- what is told may hold what was handed in -/
def spA (K : PySem.W.Frag) (mg : Str → Option Value) (n : Nat) (g : List Dt → O Dt) : Sp := fun vs H Q E => ∃ ds F, vs.length = n ∧ RpA K F H vs ds ∧ (match g ds with
  | .bad => False
  | .ex e => ∀ H', Same H H' → Wcls mg e E H'
  | .ok d => ∀ v H', Same H H' → Rp K (fun a => F a ∨ H a = none) H' v d → Q v H')
/-- a new list is told -/
def spL (K : PySem.W.Frag) (mg : Str → Option Value) (n : Nat) (g : List Dt → O Dt) : Sp := fun vs H Q E => ∃ ds, vs.length = n ∧ RpA K (fun _ => True) H vs ds ∧ (match g ds with
  | .bad => False
  | .ex e => ∀ H', Same H H' → Wcls mg e E H'
  | .ok d => ∀ p H', H p = none → Same H H' → OwC K .l (fun a => H a = none ∧ a ≠ p) H' p d → Q (.ref p) H')
def gCallN (n : Nat) (g : List Dt → O Dt) (gA : List Dt → O (List Dt)) : Gd := fun ρ => bnd (gA ρ) fun ds => if ds.length = n then (match g ds with
  | .ok d => .ok d
  | _ => .bad) else .bad
section
variable {K : PySem.W.Frag} {W : Wt} {Δ : List Kd} {ta : TA} {gA : List Dt → O (List Dt)} {av fr : Bool} {mg : Str → Option Value} {n : Nat} {g : List Dt → O Dt}
theorem se_callN (h : SA K W Δ ta av fr gA) : SE K W Δ (tCall (spG K mg n g) [] E0 ta) (.v true true) (gCallN n g gA) := fun f ρ σ H Q r q => h f ρ σ H _ r <| by
  unfold gCallN at q
  cases e : gA ρ with
  | bad => rw [e] at q; exact q
  | ex z => rw [e] at q; exact q
  | ok ds =>
    rw [e, bnd_ok] at q
    intro vs H1 s1 x1
    by_cases hn : ds.length = n
    · rw [if_pos hn] at q
      rw [List.append_nil]
      refine ⟨ds, by rw [x1.length]; exact hn, x1.weak fun _ _ => trivial, ?_⟩
      cases e2 : g ds with
      | bad => rw [e2] at q; exact q.elim
      | ex z => rw [e2] at q; exact q.elim
      | ok d =>
        rw [e2] at q
        intro v H2 s2 x2
        refine q v H2 (s1.trans s2) (x2.weak fun a na => ?_)
        obtain ⟨f1, f2, f3⟩ := (r.mono s1).fresh na
        exact ⟨fun _ => ⟨f1, f2⟩, fun _ => r.g0 a f3⟩
    · rw [if_neg hn] at q
      exact q.elim
theorem se_callL (h : SA K W Δ ta av fr gA) : SE K W Δ (tCall (spL K mg n g) [] E0 ta) (.new .l true) (gCallN n g gA) := fun f ρ σ H Q r q => h f ρ σ H _ r <| by
  unfold gCallN at q
  cases e : gA ρ with
  | bad => rw [e] at q; exact q
  | ex z => rw [e] at q; exact q
  | ok ds =>
    rw [e, bnd_ok] at q
    intro vs H1 s1 x1
    by_cases hn : ds.length = n
    · rw [if_pos hn] at q
      rw [List.append_nil]
      refine ⟨ds, by rw [x1.length]; exact hn, x1.weak fun _ _ => trivial, ?_⟩
      cases e2 : g ds with
      | bad => rw [e2] at q; exact q.elim
      | ex z => rw [e2] at q; exact q.elim
      | ok d =>
        rw [e2] at q
        intro p H2 np s2 x2
        refine q p H2 (s1.free np) (s1.trans s2) (x2.map (fun _ e => e) fun _ _ y => y.weak fun a na => ?_)
        obtain ⟨f1, f2, f3⟩ := (r.mono s1).fresh na.1
        exact ⟨⟨fun _ => ⟨f1, f2⟩, fun _ => r.g0 a f3⟩, na.2⟩
    · rw [if_neg hn] at q
      exact q.elim
theorem se_callA (h : SA K W Δ ta av fr gA) : SE K W Δ (tCall (spA K mg n g) [] E0 ta) (.v av fr) (gCallN n g gA) := fun f ρ σ H Q r q => h f ρ σ H _ r <| by
  unfold gCallN at q
  cases e : gA ρ with
  | bad => rw [e] at q; exact q
  | ex z => rw [e] at q; exact q
  | ok ds =>
    rw [e, bnd_ok] at q
    intro vs H1 s1 x1
    by_cases hn : ds.length = n
    · rw [if_pos hn] at q
      rw [List.append_nil]
      refine ⟨ds, _, by rw [x1.length]; exact hn, x1, ?_⟩
      cases e2 : g ds with
      | bad => rw [e2] at q; exact q.elim
      | ex z => rw [e2] at q; exact q.elim
      | ok d =>
        rw [e2] at q
        intro v H2 s2 x2
        refine q v H2 (s1.trans s2) (x2.weak fun a na => ?_)
        rcases na with na | na
        · exact na
        · obtain ⟨f1, f2, f3⟩ := (r.mono s1).fresh na
          exact ⟨fun _ => ⟨f1, f2⟩, fun _ => r.g0 a f3⟩
    · rw [if_neg hn] at q
      exact q.elim
end
end Sim
end T_SimF

section T_SimG
set_option Elab.async false
set_option linter.all false
set_option maxRecDepth 100000
/-! SimG: the rules for a text: subscripts, walks, comprehensions, calls, statements, defs. -/
namespace Sim
open PySem PySem.Spec L2
open PyProof.Rows hiding St

section
variable {X : Cx} {K : PySem.W.Frag} {W : Wt} {Δ Δ1 Δn Δb Δc : List Kd} {a b c e elt tg iter : Expr} {es ifs : List Expr} {ta tb tc te : TE} {tt tu : TT} {tA : TA} {ga gb gc g ge gi : Gd} {gt gu : List Dt → O Bool} {gA gI : List Dt → O (List Dt)} {k k1 k2 : Rk} {av fr av' fr' L : Bool} {pos : Pos} {t u : TS} {g1 g2 : Gs}

/-! subscripts, slices -/
theorem x_ix (ha : PD X K W Δ a ta (.v av fr) ga) (hb : PD X K W Δ b tb (.v av' fr') gb) (hs : PlainIx b := by exact fun _ _ => rfl) : PD X K W Δ (.Subscript a b pos) (tOp (rIx K) ta tb) (.v av fr) (gOp hIx ga gb) :=
  ⟨pe_ix (by have q := ix_seq (X := X); rw [ha.hK] at q; exact q) ha.pe hb.pe hs, ha.hK, se_ix ha.se hb.se⟩
theorem x_ixO (ha : PD X K W Δ a ta (.o fr) ga) (hb : PD X K W Δ b tb (.v av' fr') gb) (hs : PlainIx b := by exact fun _ _ => rfl) : PD X K W Δ (.Subscript a b pos) (tOp (rIx K) ta tb) (.v true fr) (gOp hIx ga gb) :=
  ⟨pe_ix (by have q := ix_seq (X := X); rw [ha.hK] at q; exact q) ha.pe hb.pe hs, ha.hK, se_ixO ha.se hb.se⟩
structure OD (X : Cx) (K : PySem.W.Frag) (W : Wt) (Δ : List Kd) (e : Option Expr) (to : TOp) (g : List Dt → O (Option Int)) : Prop where
  po : PO X e to
  so : SO K W Δ to g
theorem o_none : OD X K W Δ none tNoPart gNoPart := ⟨po_none, so_none⟩
theorem o_some (h : PD X K W Δ e te (.v av fr) g) : OD X K W Δ (some e) (tPart te) (gPart g) := ⟨po_some h.pe, so_some h.se⟩
theorem x_sl {lo hi : Option Expr} {tl th : TOp} {gl gh : List Dt → O (Option Int)} {p2 : Pos} (h : PD X K W Δ e te (.v true fr) g) (h1 : OD X K W Δ lo tl gl) (h2 : OD X K W Δ hi th gh) : PD X K W Δ (.Subscript e (.Slice lo hi none p2) pos) (tSl (rSlL K) te tl th) (.new .l fr) (gSl hSl g gl gh) :=
  ⟨pe_slice (by have q := sl_list (X := X); rw [h.hK] at q; exact q) h.pe h1.po h2.po, h.hK, se_sl h.se h1.so h2.so⟩
theorem x_slO {lo hi : Option Expr} {tl th : TOp} {gl gh : List Dt → O (Option Int)} {p2 : Pos} (h : PD X K W Δ e te (.o fr) g) (h1 : OD X K W Δ lo tl gl) (h2 : OD X K W Δ hi th gh) : PD X K W Δ (.Subscript e (.Slice lo hi none p2) pos) (tSl (rSlL K) te tl th) (.new .l fr) (gSl hSl g gl gh) :=
  ⟨pe_slice (by have q := sl_list (X := X); rw [h.hK] at q; exact q) h.pe h1.po h2.po, h.hK, se_slO h.se h1.so h2.so⟩
theorem x_slT {lo hi : Option Expr} {tl th : TOp} {gl gh : List Dt → O (Option Int)} {p2 : Pos} (h : PD X K W Δ e te (.v av fr) g) (h1 : OD X K W Δ lo tl gl) (h2 : OD X K W Δ hi th gh) : PD X K W Δ (.Subscript e (.Slice lo hi none p2) pos) (tSl (rSlA K) te tl th) (.v av fr) (gSl hSlT g gl gh) :=
  ⟨pe_slice (by have q := sl_tupA (X := X); rw [h.hK] at q; exact q) h.pe h1.po h2.po, h.hK, se_slT h.se h1.so h2.so⟩

/-! list + list, list * int -/
theorem x_cat (ha : PD X K W Δ a ta (.v true fr) ga) (hb : PD X K W Δ b tb (.v true fr') gb) : PD X K W Δ (.BinOp a .Add b pos) (tOp (rCatS K) ta tb) (.new .l (fr && fr')) (gOp hCat ga gb) :=
  ⟨pe_op (by have q := op_catS (X := X); rw [ha.hK] at q; exact q) ha.pe hb.pe, ha.hK, se_cat ha.se hb.se⟩
theorem x_catO (ha : PD X K W Δ a ta (.o fr) ga) (hb : PD X K W Δ b tb (.v true fr') gb) : PD X K W Δ (.BinOp a .Add b pos) (tOp (rCatS K) ta tb) (.new .l (fr && fr')) (gOp hCat ga gb) :=
  ⟨pe_op (by have q := op_catS (X := X); rw [ha.hK] at q; exact q) ha.pe hb.pe, ha.hK, se_catO ha.se hb.se⟩
theorem x_rep (ha : PD X K W Δ a ta (.new .l fr) ga) (hb : PD X K W Δ b tb (.v av' fr') gb) : PD X K W Δ (.BinOp a .Mult b pos) (tOp rRep ta tb) (.new .l fr) (gOp hRep ga gb) := ⟨pe_op op_rep ha.pe hb.pe, ha.hK, se_rep ha.se hb.se⟩

/-! list(x), tuple(x), sorted(x) -/
theorem x_list {x : Str} {p : Pos} (hm : X.mg x = none) (h : AD X K W Δ (e :: es) tA true fr gA) (hv : bootBuiltins x = some (.type "list") := by decide +kernel) (hg : Gl X x := by rfl) (hn : x ≠ "__name__" := by decide) (hdb : (x == ("__debug__" : Str)) = false := by decide)
    (he : starEach (e :: es) X.env = (false, eval e X.env) :: starEach es X.env := by rfl) (hpl : (backTo pos (starEach es X.env)).any (·.1) = false := by rfl) :
    PD X K W Δ (.Call (.Name x p) (e :: es) [] pos) (tCB (rListOf K) tA) (.new .l fr) (gCB (one hListOf) gA) :=
  ⟨pe_callTy (by have q := call_list_of (X := X); rw [h.hK] at q; exact q) hg hm hv h.pa hn hdb he hpl, h.hK, se_listOf h.sa⟩
theorem x_listO {x : Str} {p : Pos} (hm : X.mg x = none) (h : PD X K W Δ e te (.o fr) g) (hv : bootBuiltins x = some (.type "list") := by decide +kernel) (hg : Gl X x := by rfl) (hn : x ≠ "__name__" := by decide) (hdb : (x == ("__debug__" : Str)) = false := by decide)
    (he : starEach [e] X.env = (false, eval e X.env) :: starEach [] X.env := by rfl) (hpl : (backTo pos (starEach [] X.env)).any (·.1) = false := by rfl) :
    PD X K W Δ (.Call (.Name x p) [e] [] pos) (tCB (rListOf K) (tCons te tNil)) (.new .l fr) (gCB (one hListOf) (gCons g gNil)) :=
  ⟨pe_callTy (by have q := call_list_of (X := X); rw [h.hK] at q; exact q) hg hm hv (pa_cons h.pe pa_nil he) hn hdb he hpl, h.hK, se_listOwn h.se⟩
theorem x_tuple {x : Str} {p : Pos} (hm : X.mg x = none) (h : AD X K W Δ (e :: es) tA av fr gA) (hv : bootBuiltins x = some (.type "tuple") := by decide +kernel) (hg : Gl X x := by rfl) (hn : x ≠ "__name__" := by decide) (hdb : (x == ("__debug__" : Str)) = false := by decide)
    (he : starEach (e :: es) X.env = (false, eval e X.env) :: starEach es X.env := by rfl) (hpl : (backTo pos (starEach es X.env)).any (·.1) = false := by rfl) :
    PD X K W Δ (.Call (.Name x p) (e :: es) [] pos) (tCB (fun xs H Q => ∃ p ys, xs = [.ref p] ∧ ((SqL K H p ys ∧ ∀ l, H l = none → Q (.ref l) (upd H l (.tup ys))) ∨ (SqT K H p ys ∧ Q (.ref p) H))) tA) (.v av fr) (gCB (one hTupOf) gA) :=
  ⟨pe_callTy (by have q := call_tuple_of (X := X); rw [h.hK] at q; exact q) hg hm hv h.pa hn hdb he hpl, h.hK, se_tupOf h.sa⟩
theorem x_sorted {x : Str} {p : Pos} (hm : X.mg x = none) (h : AD X K W Δ (e :: es) tA av fr gA) (hv : bootBuiltins x = some (.builtin "sorted") := by decide +kernel) (hg : Gl X x := by rfl) (hn : x ≠ "__name__" := by decide) (hdb : (x == ("__debug__" : Str)) = false := by decide)
    (he : starEach (e :: es) X.env = (false, eval e X.env) :: starEach es X.env := by rfl) (hpl : (backTo pos (starEach es X.env)).any (·.1) = false := by rfl) :
    PD X K W Δ (.Call (.Name x p) (e :: es) [] pos) (tCB (rSortedI K) tA) (.new .l true) (gCB (one hSorted) gA) :=
  ⟨pe_callB (by have q := cr_sortedI (X := X); rw [h.hK] at q; exact q) hg hm hv h.pa hn hdb he hpl, h.hK, se_sorted h.sa⟩

/-! what is walked -/
theorem i_seq (h : PD X K W Δ e te (.v true fr) g) : ID X K W Δ tg e (iSeq K te) false fr (gSeq g) := ⟨by have q := pi_seq (tg := tg) h.pe; rw [h.hK] at q; exact q, h.hK, si_seq h.se⟩
theorem i_own (h : PD X K W Δ e te (.o fr) g) : ID X K W Δ tg e (iSeq K te) true fr (gSeq g) := ⟨by have q := pi_seq (tg := tg) h.pe; rw [h.hK] at q; exact q, h.hK, si_own h.se⟩
theorem i_rng1 {p : Pos} (hm : X.mg "range" = none) (h : AD X K W Δ [a] tA av fr gA) (hg : Gl X "range" := by rfl) (hs : starEach [a] X.env = [(false, eval a X.env)] := by rfl) : ID X K W Δ tg (.Call (.Name "range" p) [a] [] pos) (iRng1 tA) false true (gRng1 gA) := ⟨pi_range1 hg hm h.pa hs, h.hK, si_rng1 h.sa⟩
theorem i_rng2 {p : Pos} (hm : X.mg "range" = none) (h : AD X K W Δ [a, b] tA av fr gA) (hg : Gl X "range" := by rfl) (hs : starEach [a, b] X.env = [(false, eval a X.env), (false, eval b X.env)] := by rfl) (hs2 : starEach [b] X.env = [(false, eval b X.env)] := by rfl) :
    ID X K W Δ tg (.Call (.Name "range" p) [a, b] [] pos) (iRng2 tA) false true (gRng2 gA) := ⟨pi_range2 hg hm h.pa hs hs2, h.hK, si_rng2 h.sa⟩

/-! targets -/
theorem g_tup {n m kk : Nat} {gs : TGs} {sl : List Nat} {u : List Dt → List Dt → O (List Dt)} {T : Bool → List Kd → List Kd} (hc : X.calm = true) (h : GDs X K n es gs sl u T) (hm : ∀ ds ρ, ds.length ≠ m → ∀ z, u ds ρ ≠ .ok z) (hl : (assignEach es X.env).length = m := by rfl) (hst : List.findIdx? (fun x => x.fst) (assignEach es X.env) = none := by rfl) :
    GD X K n (.Tuple es kk pos) (L2.gTup K m gs) sl (tgT u) T := ⟨by have q := pg_tup (X := X) (k := kk) (n := m) (pos := pos) hc h.pg hl hst; rw [h.hK] at q; exact q, h.hK, gj_tup h.gj hm⟩

/-! comprehensions -/
structure TsD (X : Cx) (K : PySem.W.Frag) (Δ : List Kd) (ifs : List Expr) (tt : TT) (g : List Dt → O Bool) : Prop where
  pts : PTs X ifs tt
  st : ST K W0 Δ tt g
theorem t_nil : TsD X K Δ [] tYes gYes := ⟨pts_nil, fun f ρ σ H Q r q => q H (Same.refl H)⟩
theorem t_one (h : TD X K W0 Δ c tt gt) : TsD X K Δ [c] tt gt := ⟨pts_one h.pt, h.st⟩

theorem x_lc {n : Nat} {scope : Scope} (own : List (Str × Nat)) {wi : TI} {gg : TG} {sl : List Nat} {hh : Dt → List Dt → O (List Dt)} {TK : Bool → List Kd → List Kd} {bb : Bool} (hN : X.N.Nodup) (hi : ID X K W Δ tg iter wi bb fr gI) (ok : blkC X.N X.env.scope scope own = true)
    (hg : ∀ (s : Shared) (H : Hp) (C : Addr) (cl : List (Str × Addr)) (fp : List Addr), GD (X.blk s H scope (compEnvC scope cl C X.env) fp) K n tg gg sl hh TK)
    (ht : ∀ (s : Shared) (H : Hp) (C : Addr) (cl : List (Str × Addr)) (fp : List Addr), TsD (X.blk s H scope (compEnvC scope cl C X.env) fp) K (TK fr (wipeK Δ (own.map (·.2)))) ifs tt gt)
    (he : ∀ (s : Shared) (H : Hp) (C : Addr) (cl : List (Str × Addr)) (fp : List Addr), PD (X.blk s H scope (compEnvC scope cl C X.env) fp) K W0 (TK fr (wipeK Δ (own.map (·.2)))) elt te (.v true fr') ge)
    (hn : Δ.length = n := by rfl) (hsl : ∀ i ∈ sl, i ∈ own.map (·.2) := by decide) (no : noOwn Δ (own.map (·.2)) = true := by rfl) (hc : X.calm = true := by rfl) (hs : ∀ x, foldedSetIterable iter X.env x = pure x := by intro _; rfl) :
    PD X K W Δ (.ListComp elt [⟨tg, iter, ifs, 0⟩] scope pos) (tLc wi gg tt te (own.map (·.2))) (.new .l fr') (gLc gI hh gt ge) :=
  ⟨pe_lc hc hN hi.pi (blkOk_by ok) (fun s H C cl fp => (hg s H C cl fp).pg) (fun s H C cl fp => (ht s H C cl fp).pts) (fun s H C cl fp => (he s H C cl fp).pe) hs, hi.hK,
    se_lc hi.si (hg X.s_0 X.H_0 0 [] []).gj hn hsl no (ht X.s_0 X.H_0 0 [] []).st (he X.s_0 X.H_0 0 [] []).se⟩

/-! calls -/
theorem x_callN {x : Str} {p : Pos} {CXT' : CXT} {kk nn : Nat} {fa : Addr} {fd : FuncData} {ps : List Str} {gg : List Dt → O Dt} {mg : Str → Option Value} (F : FnOk X.prog X.w X.K X.mg X.base CXT' kk fa fd ps (spG K mg nn gg)) (hr : Room kk X.A) (hm : X.mg x = some (.ref fa)) (hk : PySem.W.keepIn X.K (.ref fa) = true) (hb : Binds X.K fd ps [])
    (hx : Passes CXT' X E0) (h : AD X K W Δ (e :: es) tA av fr gA) (hg : Gl X x := by rfl) (hdb : (x == ("__debug__" : Str)) = false := by decide) (he : starEach (e :: es) X.env = (false, eval e X.env) :: starEach es X.env := by rfl) (hpl : (backTo pos (starEach es X.env)).any (·.1) = false := by rfl) :
    PD X K W Δ (.Call (.Name x p) (e :: es) [] pos) (tCall (spG K mg nn gg) [] E0 tA) (.v true true) (gCallN nn gg gA) := ⟨pe_call F hr hg hm hk hb .nil hx h.pa hdb he hpl, h.hK, se_callN h.sa⟩
theorem x_callL {x : Str} {p : Pos} {CXT' : CXT} {kk nn : Nat} {fa : Addr} {fd : FuncData} {ps : List Str} {gg : List Dt → O Dt} {mg : Str → Option Value} (F : FnOk X.prog X.w X.K X.mg X.base CXT' kk fa fd ps (spL K mg nn gg)) (hr : Room kk X.A) (hm : X.mg x = some (.ref fa)) (hk : PySem.W.keepIn X.K (.ref fa) = true) (hb : Binds X.K fd ps [])
    (hx : Passes CXT' X E0) (h : AD X K W Δ (e :: es) tA av fr gA) (hg : Gl X x := by rfl) (hdb : (x == ("__debug__" : Str)) = false := by decide) (he : starEach (e :: es) X.env = (false, eval e X.env) :: starEach es X.env := by rfl) (hpl : (backTo pos (starEach es X.env)).any (·.1) = false := by rfl) :
    PD X K W Δ (.Call (.Name x p) (e :: es) [] pos) (tCall (spL K mg nn gg) [] E0 tA) (.new .l true) (gCallN nn gg gA) := ⟨pe_call F hr hg hm hk hb .nil hx h.pa hdb he hpl, h.hK, se_callL h.sa⟩
theorem x_callA {x : Str} {p : Pos} {CXT' : CXT} {kk nn : Nat} {fa : Addr} {fd : FuncData} {ps : List Str} {gg : List Dt → O Dt} {mg : Str → Option Value} (F : FnOk X.prog X.w X.K X.mg X.base CXT' kk fa fd ps (spA K mg nn gg)) (hr : Room kk X.A) (hm : X.mg x = some (.ref fa)) (hk : PySem.W.keepIn X.K (.ref fa) = true) (hb : Binds X.K fd ps [])
    (hx : Passes CXT' X E0) (h : AD X K W Δ (e :: es) tA av fr gA) (hg : Gl X x := by rfl) (hdb : (x == ("__debug__" : Str)) = false := by decide) (he : starEach (e :: es) X.env = (false, eval e X.env) :: starEach es X.env := by rfl) (hpl : (backTo pos (starEach es X.env)).any (·.1) = false := by rfl) :
    PD X K W Δ (.Call (.Name x p) (e :: es) [] pos) (tCall (spA K mg nn gg) [] E0 tA) (.v av fr) (gCallN nn gg gA) := ⟨pe_call F hr hg hm hk hb .nil hx h.pa hdb he hpl, h.hK, se_callA h.sa⟩
end

/-! ### statements -/
structure SD (X : Cx) (K : PySem.W.Frag) (W : Wt) (L : Bool) (Δ Δn Δb Δc : List Kd) (st : Stmt) (ts : TS) (g : Gs) : Prop where
  ps : PS X st ts
  hK : X.K = K
  ss : SS K W L Δ Δn Δb Δc ts g
structure BD (X : Cx) (K : PySem.W.Frag) (W : Wt) (L : Bool) (Δ Δn Δb Δc : List Kd) (sts : List Stmt) (ts : TS) (g : Gs) : Prop where
  ps : PSs X sts ts
  hK : X.K = K
  ss : SS K W L Δ Δn Δb Δc ts g
section
variable {X : Cx} {K : PySem.W.Frag} {W : Wt} {Δ Δ1 Δ2 Δn Δb Δc : List Kd} {a b c e elt tg iter : Expr} {es ifs : List Expr} {ta tb tc te ti : TE} {tt tu : TT} {tA : TA} {ga gb gc g ge gi : Gd} {gt gu : List Dt → O Bool} {gA gI : List Dt → O (List Dt)} {k k1 k2 : Rk} {av fr av' fr' L : Bool} {pos pos' : Pos} {t u : TS} {g1 g2 : Gs} {st : Stmt} {sts sts2 : List Stmt}

theorem SD.pre (h : SD X K W L Δ1 Δn Δb Δc st t g1) (l : leA Δ Δ1 = true := by rfl) : SD X K W L Δ Δn Δb Δc st t g1 := ⟨h.ps, h.hK, h.ss.pre l⟩
theorem BD.post {Δn' Δb' Δc' : List Kd} (h : BD X K W L Δ Δn Δb Δc sts t g1) (ln : leA Δn Δn' = true := by rfl) (lb : leA Δb Δb' = true := by rfl) (lc : leA Δc Δc' = true := by rfl) : BD X K W L Δ Δn' Δb' Δc' sts t g1 := ⟨h.ps, h.hK, h.ss.post ln lb lc⟩
theorem b_nil (hK : X.K = K := by rfl) : BD X K W L Δ Δ Δb Δc [] tNext gNext := ⟨pss_nil, hK, s_next⟩
theorem b_one (h : SD X K W L Δ Δn Δb Δc st t g1) : BD X K W L Δ Δn Δb Δc [st] t g1 := ⟨pss_one h.ps, h.hK, h.ss⟩
theorem b_cons (h : SD X K W L Δ Δ1 Δb Δc st t g1) (h2 : BD X K W L Δ1 Δn Δb Δc sts u g2) : BD X K W L Δ Δn Δb Δc (st :: sts) (tSeq t u) (gSeqS g1 g2) := ⟨pss_cons h.ps h2.ps, h.hK, s_seq h.ss h2.ss⟩

theorem z_ret (h : PD X K W Δ e te (.v av true) g) : SD X K W false Δ Δn Δb Δc (.Return (some e) pos) (tRet te) (gRet g) := ⟨ps_ret h.pe, h.hK, s_ret h.se⟩
theorem z_retL (h : PD X K W Δ e te (.new .l true) g) : SD X K W true Δ Δn Δb Δc (.Return (some e) pos) (tRet te) (gRet g) := ⟨ps_ret h.pe, h.hK, s_retL h.se⟩
theorem z_retO (i : Nat) {x : Str} {p : Pos} (hk : Δ[i]? = some (.own .l true) := by rfl) (hN : X.N[i]? = some x := by rfl) (hv : Vis X.env.scope x := by first | exact Or.inl rfl | exact Or.inr (Or.inl rfl) | exact Or.inr (Or.inr rfl)) (hd : (x == ("__debug__" : Str)) = false := by decide)
    (hcd : (x == ("__classdict__" : Str)) = false := by decide) (hK : X.K = K := by rfl) : SD X K W true Δ Δn Δb Δc (.Return (some (.Name x p)) pos) (tRet (tVar i)) (gRet (gVar i)) := ⟨ps_ret (pe_var hN hv hd hcd), hK, s_retO hk⟩
theorem z_retOp (i : Nat) {x : Str} {p : Pos} (hk : Δ[i]? = some (.own .l fr) := by rfl) (hN : X.N[i]? = some x := by rfl) (hv : Vis X.env.scope x := by first | exact Or.inl rfl | exact Or.inr (Or.inl rfl) | exact Or.inr (Or.inr rfl)) (hd : (x == ("__debug__" : Str)) = false := by decide)
    (hcd : (x == ("__classdict__" : Str)) = false := by decide) (hK : X.K = K := by rfl) : SD X K W true Δ Δn Δb Δc (.Return (some (.Name x p)) pos) (tRet (tVar i)) (gRet (gPurV i)) := ⟨ps_ret (pe_var hN hv hd hcd), hK, s_retOp hk⟩
theorem z_expr (h : PD X K W Δ e te k g) (hs : swapsWith e none pos.line X.env = pure false := by rfl) : SD X K W L Δ Δ Δb Δc (.Expr e pos) (tDrop te) (gDrop g) := ⟨ps_expr h.pe hs, h.hK, s_drop h.se⟩
theorem z_set (i : Nat) {x : Str} (hN : X.N.Nodup) (h : PD X K W Δ e te (.v true fr) g) (hn : i < Δ.length := by decide) (hi : X.N[i]? = some x := by rfl) (hx : Loc X.env.scope x := by first | exact .inl rfl | exact .inr rfl) (hs : swapsWith e (some (.Name x pos')) pos.line X.env = pure false := by rfl) (hf : X.fn x = true ∨ X.env.scope.names.lookup x = some .local := by first | exact .inl rfl | exact .inr rfl) :
    SD X K W L Δ (Δ.set i (.im fr)) Δb Δc (.Assign [.Name x pos'] e pos) (tAsg te (gName i)) (gSet i g) := ⟨ps_set hN hi hx h.pe hs hf, h.hK, s_set hn h.se⟩
theorem z_setO (i : Nat) {x : Str} {ct : Ct} (hN : X.N.Nodup) (h : PD X K W Δ e te (.new ct fr) g) (hn : i < Δ.length := by decide) (hi : X.N[i]? = some x := by rfl) (hx : Loc X.env.scope x := by first | exact .inl rfl | exact .inr rfl) (hs : swapsWith e (some (.Name x pos')) pos.line X.env = pure false := by rfl) (hf : X.fn x = true ∨ X.env.scope.names.lookup x = some .local := by first | exact .inl rfl | exact .inr rfl) :
    SD X K W L Δ (Δ.set i (.own ct fr)) Δb Δc (.Assign [.Name x pos'] e pos) (tAsg te (gName i)) (gSet i g) := ⟨ps_set hN hi hx h.pe hs hf, h.hK, s_setO hn h.se⟩
/-- y = [..] on one line, y a local -/
theorem z_setLc (i : Nat) {y : Str} {py : Pos} {n : Nat} {scope : Scope} (own : List (Str × Nat)) {wi : TI} {gg : TG} {sl : List Nat} {hh : Dt → List Dt → O (List Dt)} {TK : Bool → List Kd → List Kd} {bb : Bool} (hN : X.N.Nodup) (hi : ID X K W Δ tg iter wi bb fr gI) (ok : blkC X.N X.env.scope scope own = true)
    (hg : ∀ (s : Shared) (H : Hp) (C : Addr) (cl : List (Str × Addr)) (fp : List Addr), GD (X.blk s H scope (compEnvC scope cl C X.env) fp) K n tg gg sl hh TK)
    (ht : ∀ (s : Shared) (H : Hp) (C : Addr) (cl : List (Str × Addr)) (fp : List Addr), TsD (X.blk s H scope (compEnvC scope cl C X.env) fp) K (TK fr (wipeK Δ (own.map (·.2)))) ifs tt gt)
    (he : ∀ (s : Shared) (H : Hp) (C : Addr) (cl : List (Str × Addr)) (fp : List Addr), PD (X.blk s H scope (compEnvC scope cl C X.env) fp) K W0 (TK fr (wipeK Δ (own.map (·.2)))) elt te (.v true fr') ge)
    (hsw : swapsWith (.ListComp elt [⟨tg, iter, ifs, 0⟩] scope pos) (some (.Name y py)) pos'.line X.env = pure true) (hin : i < Δ.length := by decide) (hy : X.N[i]? = some y := by rfl) (hyl : X.env.scope.names.lookup y = some .local := by rfl)
    (hn : Δ.length = n := by rfl) (hsl : ∀ i ∈ sl, i ∈ own.map (·.2) := by decide) (no : noOwn Δ (own.map (·.2)) = true := by rfl) (hc : X.calm = true := by rfl) (hs : ∀ x, foldedSetIterable iter X.env x = pure x := by intro _; rfl) :
    SD X K W L Δ (Δ.set i (.own .l fr')) Δb Δc (.Assign [.Name y py] (.ListComp elt [⟨tg, iter, ifs, 0⟩] scope pos) pos') (tAsg (tLc wi gg tt te (own.map (·.2))) (gName i)) (gSet i (gLc gI hh gt ge)) :=
  ⟨ps_setLc hc hN hy hyl hsw hi.pi (blkOk_by ok) (fun s H C cl fp => (hg s H C cl fp).pg) (fun s H C cl fp => (ht s H C cl fp).pts) (fun s H C cl fp => (he s H C cl fp).pe) hs, hi.hK,
    s_setO hin (se_lc hi.si (hg X.s_0 X.H_0 0 [] []).gj hn hsl no (ht X.s_0 X.H_0 0 [] []).st (he X.s_0 X.H_0 0 [] []).se)⟩
theorem z_asg {n : Nat} {gg : TG} {sl : List Nat} {hh : Dt → List Dt → O (List Dt)} {TK : Bool → List Kd → List Kd} (h : PD X K W Δ e te (.v true fr) g) (hg : GD X K n tg gg sl hh TK) (hn : Δ.length = n := by rfl) (hs : swapsWithSole [tg] e pos.line X.env = pure false := by rfl) (hw : swappedStores [tg] e X.env = pure none := by rfl)
    (h1 : (assignEach [tg] X.env).map (·.2) = [assign tg X.env] := by rfl) : SD X K W L Δ (TK fr Δ) Δb Δc (.Assign [tg] e pos) (tAsg te gg) (gAsg g hh) := ⟨ps_asg h.pe hg.pg hs hw h1, h.hK, s_asg hn h.se hg.gj⟩
theorem z_par (i j : Nat) {x y : Str} {px py pt : Pos} {kt k2 : Nat} {pt2 : Pos} (hN : X.N.Nodup) (h : AD X K W Δ [a, b] tA true fr gA) (hij : i ≠ j := by decide) (hni : i < Δ.length := by decide) (hnj : j < Δ.length := by decide) (hi : X.N[i]? = some x := by rfl) (hj : X.N[j]? = some y := by rfl) (hx : X.env.scope.names.lookup x = some .local := by rfl) (hy : X.env.scope.names.lookup y = some .local := by rfl)
    (hw : swappedStores [.Tuple [.Name x px, .Name y py] kt pt] (.Tuple [a, b] k2 pt2) X.env = pure (some [x, y]) := by rfl) (hc : X.calm = true := by rfl) (hs : swapsWithSole [.Tuple [.Name x px, .Name y py] kt pt] (.Tuple [a, b] k2 pt2) pos.line X.env = pure false := by rfl) :
    SD X K W L Δ ((Δ.set i (.im fr)).set j (.im fr)) Δb Δc (.Assign [.Tuple [.Name x px, .Name y py] kt pt] (.Tuple [a, b] k2 pt2) pos) (tPar i j tA) (gPar i j gA) := ⟨ps_par hc hN hi hj hij hx hy h.pa hw hs, h.hK, s_par hni hnj h.sa⟩
theorem z_augA (i : Nat) {x : Str} (hN : X.N.Nodup) (h : PD X K W Δ e te (.v av' fr') g) (hk : Δ[i]? = some (.im fr) := by rfl) (hi : X.N[i]? = some x := by rfl) (hx : Loc X.env.scope x := by first | exact .inl rfl | exact .inr rfl) (hf : X.fn x = true ∨ X.env.scope.names.lookup x = some .local := by first | exact .inl rfl | exact .inr rfl) :
    SD X K W L Δ (Δ.set i (.im true)) Δb Δc (.AugAssign (.Name x pos') .Add e pos) (tAug i te (ipI fun i j => i + j)) (gAug (fun i j => i + j) i g) := ⟨ps_aug hN hi hx h.pe ip_add hf, h.hK, s_aug hk h.se⟩
theorem z_augS (i : Nat) {x : Str} (hN : X.N.Nodup) (h : PD X K W Δ e te (.v av' fr') g) (hk : Δ[i]? = some (.im fr) := by rfl) (hi : X.N[i]? = some x := by rfl) (hx : Loc X.env.scope x := by first | exact .inl rfl | exact .inr rfl) (hf : X.fn x = true ∨ X.env.scope.names.lookup x = some .local := by first | exact .inl rfl | exact .inr rfl) :
    SD X K W L Δ (Δ.set i (.im true)) Δb Δc (.AugAssign (.Name x pos') .Sub e pos) (tAug i te (ipI fun i j => i - j)) (gAug (fun i j => i - j) i g) := ⟨ps_aug hN hi hx h.pe ip_sub hf, h.hK, s_aug hk h.se⟩
theorem z_app (i : Nat) {x : Str} {p p1 p2 : Pos} (h : PD X K W Δ e te (.v true fr') g) (hk : Δ[i]? = some (.own .l fr) := by rfl) (hv : Vis X.env.scope x := by first | exact Or.inl rfl | exact Or.inr (Or.inl rfl) | exact Or.inr (Or.inr rfl)) (hN : X.N[i]? = some x := by rfl) (hd : (x == ("__debug__" : Str)) = false := by decide) (hcd : (x == ("__classdict__" : Str)) = false := by decide)
    (hbase : attributeBase (.Name x p) "append" X.env (eval (.Name x p) X.env) = eval (.Name x p) X.env := by rfl)
    (hfew : ((backTo p2 (starEach [e] X.env)).all (fun x => !x.1) && (backToKw p2 (keywordEach [] X.env)).all (fun x => x.1.isSome)
      && decide ([e].length + ([] : List Keyword).length + (if ([] : List Keyword).isEmpty then 0 else 1) < 30)) = true := by rfl)
    (hline : (p1.endLine == p2.line) = true := by rfl) (hst : starEach [e] X.env = (false, eval e X.env) :: starEach [] X.env := by rfl) (hplain : (backTo p2 (starEach [] X.env)).any (·.1) = false := by rfl)
    (hs : swapsWith (.Call (.Attribute (.Name x p) "append" p1) [e] [] p2) none pos.line X.env = pure false := by rfl) :
    SD X K W L Δ (Δ.set i (.own .l (fr && fr'))) Δb Δc (.Expr (.Call (.Attribute (.Name x p) "append" p1) [e] [] p2) pos) (tDrop (tBM K "list" rAppend (tVar i) (tCons te tNil))) (gApp i g) :=
  ⟨by have q := ps_expr (pos := pos) (pe_bm PySem.F.plainAttrs_list PySem.F.slot_list_append PySem.F.type_list_append mt_append (pe_var hN hv hd hcd) (pa_cons h.pe pa_nil hst) hbase hfew hline hst hplain) hs; rw [h.hK] at q; exact q, h.hK, s_app hk h.se⟩
theorem z_ext (i : Nat) {x : Str} {p p1 p2 : Pos} (h : PD X K W Δ e te (.new .l fr') g) (hk : Δ[i]? = some (.own .l fr) := by rfl) (hv : Vis X.env.scope x := by first | exact Or.inl rfl | exact Or.inr (Or.inl rfl) | exact Or.inr (Or.inr rfl)) (hN : X.N[i]? = some x := by rfl) (hd : (x == ("__debug__" : Str)) = false := by decide) (hcd : (x == ("__classdict__" : Str)) = false := by decide)
    (hbase : attributeBase (.Name x p) "extend" X.env (eval (.Name x p) X.env) = eval (.Name x p) X.env := by rfl)
    (hfew : ((backTo p2 (starEach [e] X.env)).all (fun x => !x.1) && (backToKw p2 (keywordEach [] X.env)).all (fun x => x.1.isSome)
      && decide ([e].length + ([] : List Keyword).length + (if ([] : List Keyword).isEmpty then 0 else 1) < 30)) = true := by rfl)
    (hline : (p1.endLine == p2.line) = true := by rfl) (hst : starEach [e] X.env = (false, eval e X.env) :: starEach [] X.env := by rfl) (hplain : (backTo p2 (starEach [] X.env)).any (·.1) = false := by rfl)
    (hs : swapsWith (.Call (.Attribute (.Name x p) "extend" p1) [e] [] p2) none pos.line X.env = pure false := by rfl) :
    SD X K W L Δ (Δ.set i (.own .l (fr && fr'))) Δb Δc (.Expr (.Call (.Attribute (.Name x p) "extend" p1) [e] [] p2) pos) (tDrop (tBM K "list" rExtend (tVar i) (tCons te tNil))) (gExt i g) :=
  ⟨by have q := ps_expr (pos := pos) (pe_bm PySem.F.plainAttrs_list PySem.F.slot_list_extend PySem.F.type_list_extend mt_extend (pe_var hN hv hd hcd) (pa_cons h.pe pa_nil hst) hbase hfew hline hst hplain) hs; rw [h.hK] at q; exact q, h.hK, s_ext hk h.se⟩
theorem z_setI (i : Nat) {x : Str} {p : Pos} {ix : Expr} {sp : Pos} (h : PD X K W Δ e te (.v true fr') ge) (h2 : PD X K W Δ ix ti (.v av av') gi) (hk : Δ[i]? = some (.own .l fr) := by rfl) (hv : Vis X.env.scope x := by first | exact Or.inl rfl | exact Or.inr (Or.inl rfl) | exact Or.inr (Or.inr rfl)) (hN : X.N[i]? = some x := by rfl) (hd : (x == ("__debug__" : Str)) = false := by decide) (hcd : (x == ("__classdict__" : Str)) = false := by decide)
    (ha : ∀ v, assign (.Subscript (.Name x p) ix sp) X.env v = (do
      let ov ← holding [v] (eval (.Name x p) X.env)
      let iv ← holding [v, ov] (eval ix X.env)
      standAt sp
      holding [v, ov, iv] (setItem ov iv v)
      release [v, ov, iv] []) := by intro _; rfl) (hs : swapsWithSole [.Subscript (.Name x p) ix sp] e pos.line X.env = pure false := by rfl) (hw : swappedStores [.Subscript (.Name x p) ix sp] e X.env = pure none := by rfl)
    (h1 : (assignEach [.Subscript (.Name x p) ix sp] X.env).map (·.2) = [assign (.Subscript (.Name x p) ix sp) X.env] := by rfl) :
    SD X K W L Δ (Δ.set i (.own .l (fr && fr'))) Δb Δc (.Assign [.Subscript (.Name x p) ix sp] e pos) (tAsg te (gSub (tVar i) ti rSetL)) (gSetI i ge gi) := ⟨ps_asg h.pe (pg_sub (pe_var hN hv hd hcd) h2.pe set_list ha) hs hw h1, h.hK, s_setI hk h.se h2.se⟩
theorem z_if (h : TD X K W Δ c tt gt) (h1 : BD X K W L Δ Δn Δb Δc sts t g1) (h2 : BD X K W L Δ Δn Δb Δc sts2 u g2) : SD X K W L Δ Δn Δb Δc (.If c sts sts2 pos) (tIfS tt t u) (gIfS gt g1 g2) := ⟨ps_if h.pt h1.ps h2.ps, h.hK, s_if h.st h1.ss h2.ss⟩
theorem z_pass (hK : X.K = K := by rfl) : SD X K W L Δ Δ Δb Δc (.Pass pos) tNext gNext := ⟨ps_pass, hK, s_next⟩
theorem z_while (n : Nat) (hp : PassesOwn (model X.prog X.w) X.A X.env X.xe) (h : TD X K W Δ c tt gt) (hb : BD X K W L Δ Δ Δ Δ sts t g1) : SD X K W L Δ Δ Δb Δc (.While c sts [] pos) (tWhile tt t) (gWhile gt g1 n) := ⟨ps_while hp h.pt hb.ps, h.hK, s_while n h.st hb.ss⟩
theorem z_for {n : Nat} {wi : TI} {gg : TG} {sl : List Nat} {hh : Dt → List Dt → O (List Dt)} {TK : Bool → List Kd → List Kd} (hp : PassesOwn (model X.prog X.w) X.A X.env X.xe) (hi : ID X K W Δ tg iter wi false fr gI) (hg : GD X K n tg gg sl hh TK) (hb : BD X K W L (TK fr Δ) Δ Δ Δ sts t g1) (hn : Δ.length = n := by rfl) (hc : X.calm = true := by rfl)
    (hs : ∀ x, foldedSetIterable iter X.env x = pure x := by intro _; rfl) : SD X K W L Δ Δ Δb Δc (.For tg iter sts [] pos) (tFor wi gg t) (gFor gI hh g1) := ⟨ps_for hp hc hi.pi hg.pg hb.ps hs, hi.hK, s_for hn hi.si hg.gj hb.ss⟩
end

/-! ### defs -/
def fnN (m : Nat) (g : Gs) : List Dt → O Dt := fun ds => match g (ds ++ List.replicate (m - ds.length) .none) with
  | .ok (.rt d) => .ok d
  | .ok (.nx _) => .ok .none
  | _ => .bad
def fnL (m : Nat) (g : Gs) : List Dt → O Dt := fun ds => match g (ds ++ List.replicate (m - ds.length) .none) with
  | .ok (.rt d) => .ok d
  | _ => .bad
def kd0 (n m : Nat) (fr : Bool) : List Kd := List.replicate n (.im fr) ++ List.replicate (m - n) .no
theorem r_start {K : PySem.W.Frag} {H : Hp} {F G : Addr → Prop} {vs : List V} {ds : List Dt} {n m : Nat} {fr : Bool} {N : List Str} (hv : vs.length = n) (hN : N.length = m) (hm : n ≤ m) (x : RpA K F H vs ds) (hg : ∀ a, H a = none → G a) (hF : fr = true → ∀ a, F a → G a) :
    R K ⟨H, G, [], []⟩ (kd0 n m fr) (ds ++ List.replicate (m - ds.length) .none) (L2.start N vs) H := by
  have hd : ds.length = n := by rw [← x.length]; exact hv
  have noOw : ∀ (i : Nat) (c : Ct) (fr' : Bool), (kd0 n m fr)[i]? ≠ some (.own c fr') := fun i c fr' e => by
    unfold kd0 at e
    have := List.mem_of_getElem? e
    rcases List.mem_append.mp this with h | h
    · cases List.eq_of_mem_replicate h
    · cases List.eq_of_mem_replicate h
  refine ⟨Same.refl H, hg, ?_, ?_, fun i j ci fi cj fj p h1 => absurd h1 (noOw i ci fi), fun a ha => absurd ha (by simp), fun g hg => absurd hg (by simp), fun i fr' h => ?_, fun i c fr' h => absurd h (noOw i c fr')⟩
  · unfold L2.start kd0
    rw [List.length_append, List.length_append, List.length_map, List.length_replicate, List.length_replicate, List.length_replicate, hv, hN]
  · unfold kd0
    rw [List.length_append, List.length_append, List.length_replicate, List.length_replicate, List.length_replicate, hd]
  · unfold kd0 at h
    by_cases hi : i < n
    · rw [List.getElem?_append_left (by rw [List.length_replicate]; exact hi)] at h
      have efr : fr' = fr := by
        have := List.eq_of_mem_replicate (List.mem_of_getElem? h)
        cases this; rfl
      subst efr
      have hi' : i < vs.length := by rw [hv]; exact hi
      obtain ⟨d, h1, h2⟩ := x.get (List.getElem?_eq_getElem hi')
      refine ⟨vs[i], d, ?_, ?_, h2.weak fun a fa => ⟨fun _ => ⟨fun z => ?_, by simp⟩, fun e => hF e a fa⟩⟩
      · unfold L2.start
        rw [List.getElem?_append_left (by rw [List.length_map]; exact hi'), List.getElem?_map, List.getElem?_eq_getElem hi']
        rfl
      · rw [List.getElem?_append_left (by rw [hd]; exact hi)]
        exact h1
      · obtain ⟨j, c, frj, g1, _⟩ := z
        exact noOw j c frj g1
    · rw [List.getElem?_append_right (by rw [List.length_replicate]; omega)] at h
      cases List.eq_of_mem_replicate (List.mem_of_getElem? h)
section
variable {P : Program} {w : World} {K : PySem.W.Frag} {mg : Str → Option Value} {base : Heap} {x qual : Str} {st : Stmt} {fa : Addr} {fd : FuncData} {N ps : List Str} {k n m : Nat} {Δn : List Kd} {g : Gs}
theorem fn_okN (F : L2.Fun K x qual st fa fd) (S : FnScope N ps (defScope st)) (hn : ps.length = n) (hm : N.length = m) (hnm : n ≤ m)
    (hb : ∀ (cdv : Value) (A : Around) (outer : List Env) (s : Shared) (H : Hp) (E : XK), Room k (A.deeper (envOfC qual (defScope st) s.heap.objs.size fa cdv)) → ∃ ts, BD (cxOf CX0 P w K mg base N qual (defScope st) fa cdv A outer s H E).nox K W0 false (kd0 n m false) Δn (kd0 n m false) (kd0 n m false) (defBody st) ts g) :
    FnOk P w K mg base CX0 (k + 1) fa fd ps (spG K mg n (fnN m g)) := by
  refine F.ok S (fun vs H Q E h => ?_) (fun cdv A outer s H vs Q E hr h => ?_)
  · obtain ⟨ds, h1, _⟩ := h
    rw [h1, hn]
  · obtain ⟨ds, h1, h2, h3⟩ := h
    obtain ⟨ts, B⟩ := hb cdv A outer s H E hr
    refine ⟨ts, B.ps, B.ss ⟨H, fun a => H a = none, [], []⟩ _ _ H _ (r_start h1 hm hnm h2 (fun _ h => h) (fun e => nomatch e)) ?_⟩
    unfold fnN at h3
    cases e : g (ds ++ List.replicate (m - ds.length) .none) with
    | bad => rw [e] at h3; exact h3.elim
    | ex z => rw [e] at h3; exact h3.elim
    | ok fl =>
      rw [e] at h3
      cases fl with
      | nx ρ => exact fun σ' H' r => h3 .non H' r.ext .non
      | rt d => exact fun v H' s x => h3 v H' s x
      | bk ρ => exact h3.elim
      | ct ρ => exact h3.elim
theorem fn_okL (F : L2.Fun K x qual st fa fd) (S : FnScope N ps (defScope st)) (hn : ps.length = n) (hm : N.length = m) (hnm : n ≤ m)
    (hb : ∀ (cdv : Value) (A : Around) (outer : List Env) (s : Shared) (H : Hp) (E : XK), Room k (A.deeper (envOfC qual (defScope st) s.heap.objs.size fa cdv)) → ∃ ts, BD (cxOf CX0 P w K mg base N qual (defScope st) fa cdv A outer s H E).nox K W0 true (kd0 n m false) Δn (kd0 n m false) (kd0 n m false) (defBody st) ts g) :
    FnOk P w K mg base CX0 (k + 1) fa fd ps (spL K mg n (fnL m g)) := by
  refine F.ok S (fun vs H Q E h => ?_) (fun cdv A outer s H vs Q E hr h => ?_)
  · obtain ⟨ds, h1, _⟩ := h
    rw [h1, hn]
  · obtain ⟨ds, h1, h2, h3⟩ := h
    obtain ⟨ts, B⟩ := hb cdv A outer s H E hr
    refine ⟨ts, B.ps, B.ss ⟨H, fun a => H a = none, [], []⟩ _ _ H _ (r_start h1 hm hnm h2 (fun _ h => h) (fun e => nomatch e)) ?_⟩
    unfold fnL at h3
    cases e : g (ds ++ List.replicate (m - ds.length) .none) with
    | bad => rw [e] at h3; exact h3.elim
    | ex z => rw [e] at h3; exact h3.elim
    | ok fl =>
      rw [e] at h3
      cases fl with
      | nx ρ => exact h3.elim
      | rt d => exact fun p H' np s x => h3 p H' np s x
      | bk ρ => exact h3.elim
      | ct ρ => exact h3.elim
theorem fn_okA (F : L2.Fun K x qual st fa fd) (S : FnScope N ps (defScope st)) (hn : ps.length = n) (hm : N.length = m) (hnm : n ≤ m)
    (hb : ∀ (cdv : Value) (A : Around) (outer : List Env) (s : Shared) (H : Hp) (E : XK), Room k (A.deeper (envOfC qual (defScope st) s.heap.objs.size fa cdv)) → ∃ ts, BD (cxOf CX0 P w K mg base N qual (defScope st) fa cdv A outer s H E).nox K W0 false (kd0 n m true) Δn (kd0 n m true) (kd0 n m true) (defBody st) ts g) :
    FnOk P w K mg base CX0 (k + 1) fa fd ps (spA K mg n (fnN m g)) := by
  refine F.ok S (fun vs H Q E h => ?_) (fun cdv A outer s H vs Q E hr h => ?_)
  · obtain ⟨ds, F, h1, _⟩ := h
    rw [h1, hn]
  · obtain ⟨ds, F, h1, h2, h3⟩ := h
    obtain ⟨ts, B⟩ := hb cdv A outer s H E hr
    refine ⟨ts, B.ps, B.ss ⟨H, fun a => F a ∨ H a = none, [], []⟩ _ _ H _ (r_start h1 hm hnm h2 (fun _ h => .inr h) (fun _ a h => .inl h)) ?_⟩
    unfold fnN at h3
    cases e : g (ds ++ List.replicate (m - ds.length) .none) with
    | bad => rw [e] at h3; exact h3.elim
    | ex z => rw [e] at h3; exact h3.elim
    | ok fl =>
      rw [e] at h3
      cases fl with
      | nx ρ => exact fun σ' H' r => h3 .non H' r.ext .non
      | rt d => exact fun v H' s x => h3 v H' s x
      | bk ρ => exact h3.elim
      | ct ρ => exact h3.elim
end
end Sim
end T_SimG

section T_SimH
set_option Elab.async false
set_option linter.all false
set_option maxRecDepth 100000
/-! SimH: comparisons as values and tests, chains; kinds said outright. -/
namespace Sim
open PySem PySem.Spec L2
open PyProof.Rows hiding St

structure OR (X : Cx) (K : PySem.W.Frag) (op : CmpOp) (r : R2) (h : Dt → Dt → O Dt) : Prop where
  ho : OpR X (compareOp op) r
  scl : Scl2 h
  osc : OSc K r h
section
variable {X : Cx} {K : PySem.W.Frag} {W : Wt} {n : Nat}
theorem or_lt : OR X K .Lt (rI0 fun i j => .bl (decide (i < j))) hLt := ⟨op_lt, scl_B0, osc_B0⟩
theorem or_le : OR X K .LtE (rI0 fun i j => .bl (decide (i ≤ j))) hLe := ⟨op_le, scl_B0, osc_B0⟩
theorem or_gt : OR X K .Gt (rI0 fun i j => .bl (decide (j < i))) hGt := ⟨op_gt, scl_B0, osc_B0⟩
theorem or_ge : OR X K .GtE (rI0 fun i j => .bl (decide (j ≤ i))) hGe := ⟨op_ge, scl_B0, osc_B0⟩
theorem or_eq (hr : Room n X.A) (hK : X.K = K := by rfl) : OR X K .Eq (rEqD K) hEq := ⟨by have q := op_eqD (X := X) (by have := hr.un; omega); rw [hK] at q; exact q, scl_eq, osc_eq⟩
theorem or_ne (hr : Room n X.A) (hK : X.K = K := by rfl) : OR X K .NotEq (rNeD K) hNe := ⟨by have q := op_neD (X := X) (by have := hr.un; omega); rw [hK] at q; exact q, scl_ne, osc_ne⟩
theorem or_in (hr : Room n X.A) (hK : X.K = K := by rfl) : OR X K .In (rInDT K false) hIn := ⟨by have q := op_inDT (X := X) (by have := hr.un; omega); rw [hK] at q; exact q, scl_in, osc_in⟩
theorem or_notIn (hr : Room n X.A) (hK : X.K = K := by rfl) : OR X K .NotIn (rInDT K true) hNotIn := ⟨by have q := op_notInDT (X := X) (by have := hr.un; omega); rw [hK] at q; exact q, scl_notIn, osc_notIn⟩
theorem or_isN : OR X K .Is (fun x y H Q => y = .non ∧ Q (.bl (decide (x = .non))) H) hIs := ⟨op_isN, scl_is, osc_is⟩
theorem or_notN : OR X K .IsNot (fun x y H Q => y = .non ∧ Q (.bl (!decide (x = .non))) H) hIsNot := ⟨op_notN, scl_isNot, osc_isNot⟩
end
def gChain (h h' : Dt → Dt → O Dt) (ga gb gc : Gd) : Gd := fun ρ => bnd (ga ρ) fun x => bnd (gb ρ) fun y => bnd (h x y) fun z => bnd (asB z) fun c => if c then bnd (gc ρ) fun w => h' y w else .ok (.bool false)
section
variable {K : PySem.W.Frag} {W : Wt} {Δ : List Kd} {ta tb tc : TE} {ga gb gc : Gd} {av fr av' fr' av2 fr2 : Bool}
theorem se_chain {r r' : R2} {h h' : Dt → Dt → O Dt} (hs : Scl2 h) (ho : OSc K r h) (hs' : Scl2 h') (ho' : OSc K r' h') (ha : SE K W Δ ta (.v av fr) ga) (hb : SE K W Δ tb (.v av' fr') gb) (hc : SE K W Δ tc (.v av2 fr2) gc) :
    SE K W Δ (tChain r r' ta tb tc) (.v true true) (gChain h h' ga gb gc) := fun f ρ σ H Q R q => by
  refine ha f ρ σ H _ R ?_
  unfold gChain at q
  cases e1 : ga ρ with
  | bad => rw [e1] at q; exact q
  | ex z => rw [e1] at q; exact q
  | ok d =>
    rw [e1, bnd_ok] at q
    intro v H1 s1 x1
    refine hb f ρ σ H1 _ (R.mono s1) ?_
    cases e2 : gb ρ with
    | bad => rw [e2] at q; exact q
    | ex z => rw [e2] at q; exact fun H' s => q H' (s1.trans s)
    | ok d2 =>
      rw [e2, bnd_ok] at q
      intro v2 H2 s2 x2
      refine ho H2 v v2 d d2 _ ((x1.same s2).weak fun _ _ => trivial) (x2.weak fun _ _ => trivial) ?_
      rcases hs d d2 with ⟨z, ez, sz⟩ | ez
      · rw [ez] at q ⊢
        rw [bnd_ok] at q
        refine ⟨sz, fun w x => ?_⟩
        cases x with
        | bl c =>
          refine ⟨c, rfl, ?_⟩
          cases c with
          | false =>
            show (if false = true then _ else _)
            rw [if_neg Bool.false_ne_true]
            exact q _ H2 (s1.trans s2) (.bl false)
          | true =>
            show (if true = true then _ else _)
            rw [if_pos rfl]
            have q : PoE K W f Δ σ H (.v true true) (bnd (gc ρ) fun w => h' d2 w) Q := q
            refine hc f ρ σ H2 _ ((R.mono s1).mono s2) ?_
            cases e3 : gc ρ with
            | bad => rw [e3] at q; exact q
            | ex z => rw [e3] at q; exact fun H' s => q H' ((s1.trans s2).trans s)
            | ok d3 =>
              rw [e3, bnd_ok] at q
              intro v3 H3 s3 x3
              refine ho' H3 v2 v3 d2 d3 Q ((x2.same s3).weak fun _ _ => trivial) (x3.weak fun _ _ => trivial) ?_
              rcases hs' d2 d3 with ⟨z, ez, sz⟩ | ez
              · rw [ez] at q ⊢
                exact ⟨sz, fun w x => q w H3 ((s1.trans s2).trans s3) (x.scl_any sz)⟩
              · rw [ez] at q
                exact q.elim
        | non => exact q.elim
        | int => exact q.elim
        | str => exact q.elim
        | lst => cases sz
        | fz => cases sz
        | tup => cases sz
      · rw [ez] at q
        exact q.elim
end
section
variable {X : Cx} {K : PySem.W.Frag} {W : Wt} {Δ Δ1 Δn Δb Δc : List Kd} {a b c e : Expr} {es : List Expr} {ta tb tc te : TE} {tA : TA} {ga gb gc g : Gd} {av fr av' fr' av2 fr2 L : Bool} {pos : Pos} {op op' : CmpOp} {r r' : R2} {h h' : Dt → Dt → O Dt} {t : TS} {g1 : Gs} {st : Stmt} {sts : List Stmt}
theorem x_cmp (o : OR X K op r h) (ha : PD X K W Δ a ta (.v av fr) ga) (hb : PD X K W Δ b tb (.v av' fr') gb) (hm : behindInMarks op b = false := by first | exact nobehind _ (by decide) (by decide) | rfl) : PD X K W Δ (.Compare a [op] [b] pos) (tOp r ta tb) (.v true true) (gOp h ga gb) := ⟨pe_cmpR o.ho ha.pe hb.pe hm, ha.hK, se_op o.scl o.osc ha.se hb.se⟩
theorem c_cmp (o : OR X K op r h) (ha : PD X K W Δ a ta (.v av fr) ga) (hb : PD X K W Δ b tb (.v av' fr') gb) (hm : behindInMarks op b = false := by first | exact nobehind _ (by decide) (by decide) | rfl) : TD X K W Δ (.Compare a [op] [b] pos) (tTest (tOp r ta tb)) (gTest (gOp h ga gb)) := ⟨pt_cmpR o.ho ha.pe hb.pe hm, ha.hK, st_test (se_op o.scl o.osc ha.se hb.se)⟩
theorem x_chain (o : OR X K op r h) (o' : OR X K op' r' h') (ha : PD X K W Δ a ta (.v av fr) ga) (hb : PD X K W Δ b tb (.v av' fr') gb) (hc : PD X K W Δ c tc (.v av2 fr2) gc) (hm : lastMarks [op, op'] [b, c] = false := by with_unfolding_all rfl) : PD X K W Δ (.Compare a [op, op'] [b, c] pos) (tChain r r' ta tb tc) (.v true true) (gChain h h' ga gb gc) :=
  ⟨pe_chain o.ho o'.ho ha.pe hb.pe hc.pe hm, ha.hK, se_chain o.scl o.osc o'.scl o'.osc ha.se hb.se hc.se⟩
theorem c_chain (o : OR X K op r h) (o' : OR X K op' r' h') (ha : PD X K W Δ a ta (.v av fr) ga) (hb : PD X K W Δ b tb (.v av' fr') gb) (hc : PD X K W Δ c tc (.v av2 fr2) gc) (hm : lastMarks [op, op'] [b, c] = false := by with_unfolding_all rfl) : TD X K W Δ (.Compare a [op, op'] [b, c] pos) (tTest (tChain r r' ta tb tc)) (gTest (gChain h h' ga gb gc)) :=
  ⟨pt_chain o.ho o'.ho ha.pe hb.pe hc.pe hm, ha.hK, st_test (se_chain o.scl o.osc o'.scl o'.osc ha.se hb.se hc.se)⟩

theorem SD.to (Δn' : List Kd) (h : SD X K W L Δ Δn Δb Δc st t g1) (l : leA Δn Δn' = true := by rfl) : SD X K W L Δ Δn' Δb Δc st t g1 := ⟨h.ps, h.hK, fun f ρ σ H E r q => h.ss f ρ σ H E r <| by
  cases e : g1 ρ with
  | bad => rw [e] at q; exact q
  | ex z => rw [e] at q; exact q
  | ok fl =>
    rw [e] at q
    cases fl with
    | nx ρ' => exact fun σ' H' r => q σ' H' (r.weak l)
    | rt d => exact q
    | bk ρ' => exact q
    | ct ρ' => exact q⟩
theorem SD.frm (Δ0 : List Kd) (h : SD X K W L Δ0 Δn Δb Δc st t g1) (l : leA Δ Δ0 = true := by rfl) : SD X K W L Δ Δn Δb Δc st t g1 := ⟨h.ps, h.hK, h.ss.pre l⟩
theorem BD.to (Δn' : List Kd) (h : BD X K W L Δ Δn Δb Δc sts t g1) (l : leA Δn Δn' = true := by rfl) : BD X K W L Δ Δn' Δb Δc sts t g1 := ⟨h.ps, h.hK, fun f ρ σ H E r q => h.ss f ρ σ H E r <| by
  cases e : g1 ρ with
  | bad => rw [e] at q; exact q
  | ex z => rw [e] at q; exact q
  | ok fl =>
    rw [e] at q
    cases fl with
    | nx ρ' => exact fun σ' H' r => q σ' H' (r.weak l)
    | rt d => exact q
    | bk ρ' => exact q
    | ct ρ' => exact q⟩
theorem BD.frm (Δ0 : List Kd) (h : BD X K W L Δ0 Δn Δb Δc sts t g1) (l : leA Δ Δ0 = true := by rfl) : BD X K W L Δ Δn Δb Δc sts t g1 := ⟨h.ps, h.hK, h.ss.pre l⟩
def gBrk : Gs := fun ρ => .ok (.bk ρ)
def gCnt : Gs := fun ρ => .ok (.ct ρ)
theorem z_brk (hK : X.K = K := by rfl) : SD X K W L Δ Δn Δ Δc (.Break pos) tBreak gBrk := ⟨ps_break, hK, s_brk⟩
theorem z_cont (hK : X.K = K := by rfl) : SD X K W L Δ Δn Δb Δ (.Continue pos) tCont gCnt := ⟨ps_continue, hK, s_cont⟩
end
section
variable {X : Cx} {K : PySem.W.Frag} {W : Wt} {Δ : List Kd} {e : Expr} {te : TE} {g : Gd} {c : Ct} {fr fr' : Bool}
theorem SE.wkN (h : SE K W Δ te (.new c fr) g) (h2 : fr' = true → fr = true) : SE K W Δ te (.new c fr') g := fun f ρ σ H Q r q =>
  h f ρ σ H Q r <| by
    cases e : g ρ with
    | bad => rw [e] at q; exact q
    | ex z => rw [e] at q; exact q
    | ok d => rw [e] at q; exact fun p H' np s x => q p H' np s (x.map (fun _ e => e) fun _ _ y => y.weak fun a fa => ⟨fa.1.weak id h2, fa.2⟩)
theorem PD.wkN (fr' : Bool) (h : PD X K W Δ e te (.new c fr) g) (h2 : fr' = true → fr = true := by decide) : PD X K W Δ e te (.new c fr') g := ⟨h.pe, h.hK, SE.wkN h.se h2⟩
theorem AD.to {es : List Expr} {tA : TA} {av fr : Bool} {gA : List Dt → O (List Dt)} (av' fr' : Bool) (h : AD X K W Δ es tA av fr gA) (h1 : av' = true → av = true := by decide) (h2 : fr' = true → fr = true := by decide) : AD X K W Δ es tA av' fr' gA := h.wk h1 h2
theorem blk_fx {N : List Str} {sc scope : Scope} {own : List (Str × Nat)} (h : blkC N sc scope own = true) (e1 : X.N = N := by rfl) (e2 : X.env.scope = sc := by rfl) : blkC X.N X.env.scope scope own = true := by
  rw [e1, e2]
  exact h
end
/-! ### a law's end: what it gives does not hang on the names -/
def spLaw (K : PySem.W.Frag) (g : List Dt → O Dt) : Sp := fun vs H Q _ => ∃ ds, vs.length = 1 ∧ RpA K (fun _ => True) H vs ds ∧ g ds = .ok (.bool true) ∧ ∀ H', Q (.bl true) H'
theorem spLaw_of {K : PySem.W.Frag} {H : Hp} {a : Addr} {ns : List Int} {g : List Dt → O Dt} (hS : SqL K H a (ns.map V.int)) (h : g [.list (ns.map .int)] = .ok (.bool true)) : spLaw K g [.ref a] H (fun v _ => v = .bl true) fun _ _ _ => False := by
  refine ⟨_, rfl, .cons ?_ .nil, h, fun _ => rfl⟩
  rcases hS with (h | ⟨o, h⟩) | h
  · exact .lst h trivial (rpA_ints ns)
  · exact .fz (.inl ⟨o, h⟩) (rpA_ints ns)
  · exact .fz (.inr h) (rpA_ints ns)
theorem okLaw_of {P : Program} {w : World} {K : PySem.W.Frag} {mg : Str → Option Value} {CX : CXT} {k : Nat} {fa : Addr} {g : List Dt → O Dt}
    (h : ∃ fd : FuncData, (∀ (s : Shared) (v : Value), BindsTo s fd ⟨[v], []⟩ [("script", v)]) ∧ ∀ base : Heap, K.In base → base.Ns mainGlobals mg → FnOk P w K mg base CX k fa fd ["script"] (spG K mg 1 g)) :
    ∃ fd : FuncData, (∀ (s : Shared) (v : Value), BindsTo s fd ⟨[v], []⟩ [("script", v)]) ∧ ∀ base : Heap, K.In base → base.Ns mainGlobals mg → FnOk P w K mg base CX k fa fd ["script"] (spLaw K g) := by
  obtain ⟨fd, h1, h2⟩ := h
  have key : ∀ vs H Q E, spLaw K g vs H Q E → spG K mg 1 g vs H Q E := fun vs H Q E ⟨ds, a, b, c, d⟩ => ⟨ds, a, b, by
    rw [c]
    intro v H' s x
    cases x
    exact d H'⟩
  refine ⟨fd, h1, fun base a b => ?_⟩
  obtain ⟨len, run⟩ := h2 base a b
  exact ⟨fun vs H Q E x => len vs H Q E (key vs H Q E x), fun A outer s H args us vs Q E hr e0 hb r x => run A outer s H args us vs Q E hr e0 hb r (key vs H Q E x)⟩
end Sim
end T_SimH

section T_SimP
set_option Elab.async false
set_option linter.all false
set_option maxRecDepth 100000
/-! SimP: plain lemmas about the closures. -/
namespace Sim
open PySem

/-! ### steps -/
theorem gVar_def (i : Nat) (ρ : List Dt) : gVar i ρ = match ρ[i]? with | some d => .ok d | none => .bad := rfl
theorem gC_def (d : Dt) (ρ : List Dt) : gC d ρ = .ok d := rfl
theorem gOp_def (h : Dt → Dt → O Dt) (a b : Gd) (ρ : List Dt) : gOp h a b ρ = bnd (a ρ) fun x => bnd (b ρ) fun y => h x y := rfl
theorem gUn_def (h : Dt → O Dt) (a : Gd) (ρ : List Dt) : gUn h a ρ = bnd (a ρ) h := rfl
theorem gNil_def (ρ : List Dt) : gNil ρ = .ok [] := rfl
theorem gCons_def (a : Gd) (b : List Dt → O (List Dt)) (ρ : List Dt) : gCons a b ρ = bnd (a ρ) fun x => bnd (b ρ) fun xs => .ok (x :: xs) := rfl
theorem gTup_ok {a : List Dt → O (List Dt)} {ρ : List Dt} {xs : List Dt} (h : a ρ = .ok xs) (hl : xs.length ≤ 100000) : gTup a ρ = .ok (.tuple xs) := by unfold gTup; rw [h, bnd_ok, if_pos hl]
theorem gTup_def (a : List Dt → O (List Dt)) (ρ : List Dt) : gTup a ρ = bnd (a ρ) fun xs => if xs.length ≤ 100000 then .ok (.tuple xs) else .bad := rfl
theorem gLst_def (a : List Dt → O (List Dt)) (ρ : List Dt) : gLst a ρ = bnd (a ρ) fun xs => if xs.length ≤ 100000 then .ok (.list xs) else .bad := rfl
theorem gIf_def (t : List Dt → O Bool) (a b : Gd) (ρ : List Dt) : gIf t a b ρ = bnd (t ρ) fun c => if c then a ρ else b ρ := rfl
theorem gTest_def (a : Gd) (ρ : List Dt) : gTest a ρ = bnd (a ρ) asB := rfl
theorem gNot_def (t : List Dt → O Bool) (ρ : List Dt) : gNot t ρ = bnd (t ρ) fun b => .ok (!b) := rfl
theorem gAnd_def (t u : List Dt → O Bool) (ρ : List Dt) : gAnd t u ρ = bnd (t ρ) fun b => if b then u ρ else .ok false := rfl
theorem gOr_def (t u : List Dt → O Bool) (ρ : List Dt) : gOr t u ρ = bnd (t ρ) fun b => if b then .ok true else u ρ := rfl
theorem gAndV_def (a b : Gd) (ρ : List Dt) : gAndV a b ρ = bnd (a ρ) fun x => bnd (asB x) fun c => if c then b ρ else .ok (.bool false) := rfl
theorem gOrV_def (a b : Gd) (ρ : List Dt) : gOrV a b ρ = bnd (a ρ) fun x => bnd (asB x) fun c => if c then .ok (.bool true) else b ρ := rfl
theorem gNotV_def (a : Gd) (ρ : List Dt) : gNotV a ρ = bnd (a ρ) fun x => bnd (asB x) fun c => .ok (.bool (!c)) := rfl
theorem gCB_def (h : List Dt → O Dt) (a : List Dt → O (List Dt)) (ρ : List Dt) : gCB h a ρ = bnd (a ρ) h := rfl
theorem gPur_def (a : Gd) (ρ : List Dt) : gPur a ρ = bnd (a ρ) fun d => if pure1 d then .ok d else .bad := rfl
theorem gPurN_def (a : Gd) (ρ : List Dt) : gPurN a ρ = bnd (a ρ) fun d => if pureIn d then .ok d else .bad := rfl
theorem gPurV_def (i : Nat) (ρ : List Dt) : gPurV i ρ = gPurN (gVar i) ρ := rfl
theorem asB_b (b : Bool) : asB (.bool b) = .ok b := rfl
theorem hAdd_i (i j : Int) : hAdd (.int i) (.int j) = .ok (.int (i + j)) := rfl
theorem hSub_i (i j : Int) : hSub (.int i) (.int j) = .ok (.int (i - j)) := rfl
theorem hLt_i (i j : Int) : hLt (.int i) (.int j) = .ok (.bool (decide (i < j))) := rfl
theorem hLe_i (i j : Int) : hLe (.int i) (.int j) = .ok (.bool (decide (i ≤ j))) := rfl
theorem hGt_i (i j : Int) : hGt (.int i) (.int j) = .ok (.bool (decide (j < i))) := rfl
theorem hGe_i (i j : Int) : hGe (.int i) (.int j) = .ok (.bool (decide (j ≤ i))) := rfl
theorem hBand_i (i j : Int) : hBand (.int i) (.int j) = .ok (.int (Builtin.bitAnd i j)) := rfl
theorem hMul_r {i j : Int} (h1 : -18446744073709551616 < j) (h2 : j < 18446744073709551616) : hMul (.int i) (.int j) = .ok (.int (i * j)) := by
  show (if cMul i j then O.ok (PyData.int (i * j)) else .bad) = _
  rw [if_pos]
  unfold cMul
  rw [Bool.or_eq_true, decide_eq_true_eq, decide_eq_true_eq]
  right; omega
theorem hMul_l {i j : Int} (h1 : -18446744073709551616 < i) (h2 : i < 18446744073709551616) : hMul (.int i) (.int j) = .ok (.int (i * j)) := by
  show (if cMul i j then O.ok (PyData.int (i * j)) else .bad) = _
  rw [if_pos]
  unfold cMul
  rw [Bool.or_eq_true, decide_eq_true_eq, decide_eq_true_eq]
  left; omega
theorem hMod_i {i j : Int} (h : 0 < j) : hMod (.int i) (.int j) = .ok (.int (i % j)) := by
  show (if cMod i j then O.ok (PyData.int (i % j)) else .bad) = _
  rw [if_pos]
  unfold cMod
  exact decide_eq_true h
theorem hDiv_i {i j : Int} (h : 0 < j) (h2 : j.natAbs < 2 ^ 400) : hDiv (.int i) (.int j) = .ok (.int (i / j)) := by
  show (if cDiv i j then O.ok (PyData.int (i / j)) else .bad) = _
  rw [if_pos]
  unfold cDiv
  rw [Bool.and_eq_true]
  exact ⟨decide_eq_true h, decide_eq_true h2⟩
theorem hDiv_s {i j : Int} (h : 0 < j) (h2 : j < 1000000000000000000000000000000000) : hDiv (.int i) (.int j) = .ok (.int (i / j)) := hDiv_i h (by omega)
theorem hShr_i {i j : Int} (h : 0 ≤ j) : hShr (.int i) (.int j) = .ok (.int (i / 2 ^ j.toNat)) := by
  show (if cShr i j then O.ok (PyData.int (i / 2 ^ j.toNat)) else .bad) = _
  rw [if_pos]
  exact decide_eq_true h
theorem hPow_10_18 : hPow (.int 10) (.int 18) = .ok (.int 1000000000000000000) := by
  show (if cPow 10 18 then O.ok (PyData.int ((10 : Int) ^ (18 : Int).toNat)) else .bad) = _
  rw [if_pos (by decide)]
  rfl
theorem hPow_10_27 : hPow (.int 10) (.int 27) = .ok (.int 1000000000000000000000000000) := by
  show (if cPow 10 27 then O.ok (PyData.int ((10 : Int) ^ (27 : Int).toNat)) else .bad) = _
  rw [if_pos (by decide)]
  rfl
theorem hPow_10_28 : hPow (.int 10) (.int 28) = .ok (.int 10000000000000000000000000000) := by
  show (if cPow 10 28 then O.ok (PyData.int ((10 : Int) ^ (28 : Int).toNat)) else .bad) = _
  rw [if_pos (by decide)]
  rfl
theorem hPow_10_29 : hPow (.int 10) (.int 29) = .ok (.int 100000000000000000000000000000) := by
  show (if cPow 10 29 then O.ok (PyData.int ((10 : Int) ^ (29 : Int).toNat)) else .bad) = _
  rw [if_pos (by decide)]
  rfl
theorem hPow_10_30 : hPow (.int 10) (.int 30) = .ok (.int 1000000000000000000000000000000) := by
  show (if cPow 10 30 then O.ok (PyData.int ((10 : Int) ^ (30 : Int).toNat)) else .bad) = _
  rw [if_pos (by decide)]
  rfl
theorem shaped_int (i : Int) : SeqAt.shaped (.int i) = true := by simp [SeqAt.shaped, PyData.canLay0, PyData.depth]
theorem shaped_bool (i : Bool) : SeqAt.shaped (.bool i) = true := by simp [SeqAt.shaped, PyData.canLay0, PyData.depth]
theorem shaped_none : SeqAt.shaped .none = true := by simp [SeqAt.shaped, PyData.canLay0, PyData.depth]
theorem hEq_i (i j : Int) : hEq (.int i) (.int j) = .ok (.bool (i == j)) := by unfold hEq; rw [shaped_int, shaped_int]; simp [PyData.eqv]
theorem hNe_i (i j : Int) : hNe (.int i) (.int j) = .ok (.bool (!(i == j))) := by unfold hNe; rw [shaped_int, shaped_int]; simp [PyData.eqv]
theorem hEq_b (i j : Bool) : hEq (.bool i) (.bool j) = .ok (.bool (i == j)) := by unfold hEq; rw [shaped_bool, shaped_bool]; simp [PyData.eqv]
theorem hNe_b (i j : Bool) : hNe (.bool i) (.bool j) = .ok (.bool (!(i == j))) := by unfold hNe; rw [shaped_bool, shaped_bool]; simp [PyData.eqv]
theorem hLen_l (xs : List Dt) : hLen [.list xs] = .ok (.int xs.length) := rfl
theorem hLen_t (xs : List Dt) : hLen [.tuple xs] = .ok (.int xs.length) := rfl
theorem hMin2_i (i j : Int) : hMin2 [.int i, .int j] = .ok (.int (if j < i then j else i)) := rfl
theorem hMax2_i (i j : Int) : hMax2 [.int i, .int j] = .ok (.int (if j > i then j else i)) := rfl
theorem hMin3_i (i j k : Int) : hMin3 [.int i, .int j, .int k] = .ok (.int (if j < i then (if k < j then k else j) else (if k < i then k else i))) := rfl
theorem hInt1_b (k : Bool) : hInt1 [.bool k] = .ok (.int (if k then 1 else 0)) := rfl
theorem hInt1_i (k : Int) : hInt1 [.int k] = .ok (.int k) := rfl
theorem hBits_i (i : Int) : hBits (.int i) = .ok (.int (Builtin.Int.intBits i : Nat)) := rfl
theorem hListOf_l (xs : List Dt) : one hListOf [.list xs] = .ok (.list xs) := rfl
theorem hListOf_t (xs : List Dt) : one hListOf [.tuple xs] = .ok (.list xs) := rfl
theorem hTupOf_l (xs : List Dt) : one hTupOf [.list xs] = .ok (.tuple xs) := rfl
theorem hTupOf_t (xs : List Dt) : one hTupOf [.tuple xs] = .ok (.tuple xs) := rfl

/-! ### statements -/
theorem seq_nx {a b : Gs} {ρ ρ' : List Dt} (h : a ρ = .ok (.nx ρ')) : gSeqS a b ρ = b ρ' := by unfold gSeqS; rw [h]
theorem seq_rt {a b : Gs} {ρ : List Dt} {d : Dt} (h : a ρ = .ok (.rt d)) : gSeqS a b ρ = .ok (.rt d) := by unfold gSeqS; rw [h]
theorem set_ok {i : Nat} {g : Gd} {ρ : List Dt} {d : Dt} (h : g ρ = .ok d) : gSet i g ρ = .ok (.nx (ρ.set i d)) := by unfold gSet; rw [h]; rfl
theorem ret_ok {g : Gd} {ρ : List Dt} {d : Dt} (h : g ρ = .ok d) : gRet g ρ = .ok (.rt d) := by unfold gRet; rw [h]; rfl
theorem if_t {t : List Dt → O Bool} {a b : Gs} {ρ : List Dt} (h : t ρ = .ok true) : gIfS t a b ρ = a ρ := by unfold gIfS; rw [h]; rfl
theorem if_f {t : List Dt → O Bool} {a b : Gs} {ρ : List Dt} (h : t ρ = .ok false) : gIfS t a b ρ = b ρ := by unfold gIfS; rw [h]; rfl
theorem gSeqS_def (a b : Gs) (ρ : List Dt) : gSeqS a b ρ = match a ρ with | .ok (.nx ρ') => b ρ' | o => o := rfl
theorem gSet_def (i : Nat) (g : Gd) (ρ : List Dt) : gSet i g ρ = bnd (g ρ) fun d => .ok (.nx (ρ.set i d)) := rfl
theorem gRet_def (g : Gd) (ρ : List Dt) : gRet g ρ = bnd (g ρ) fun d => .ok (.rt d) := rfl
theorem gIfS_def (t : List Dt → O Bool) (a b : Gs) (ρ : List Dt) : gIfS t a b ρ = bnd (t ρ) fun c => if c then a ρ else b ρ := rfl
theorem gNext_def (ρ : List Dt) : gNext ρ = .ok (.nx ρ) := rfl
theorem gApp_l {i : Nat} {g : Gd} {ρ : List Dt} {ds : List Dt} {d : Dt} (h1 : ρ[i]? = some (.list ds)) (h2 : g ρ = .ok d) (h3 : ds.length < 100000) : gApp i g ρ = .ok (.nx (ρ.set i (.list (ds ++ [d])))) := by
  unfold gApp
  rw [h1]
  simp only [h2, bnd_ok]
  rw [if_pos h3]
theorem gExt_l {i : Nat} {g : Gd} {ρ : List Dt} {ds es : List Dt} (h1 : ρ[i]? = some (.list ds)) (h2 : g ρ = .ok (.list es)) (h3 : ds.length + es.length ≤ 100000) : gExt i g ρ = .ok (.nx (ρ.set i (.list (ds ++ es)))) := by
  unfold gExt
  rw [h1]
  simp only [h2, bnd_ok]
  rw [if_pos h3]
theorem callN_ok {n : Nat} {g : List Dt → O Dt} {gA : List Dt → O (List Dt)} {ρ ds : List Dt} {d : Dt} (h1 : gA ρ = .ok ds) (h2 : ds.length = n) (h3 : g ds = .ok d) : gCallN n g gA ρ = .ok d := by
  unfold gCallN
  rw [h1, bnd_ok, if_pos h2, h3]
theorem asg_ok {g : Gd} {h : Dt → List Dt → O (List Dt)} {ρ ρ' : List Dt} {d : Dt} (h1 : g ρ = .ok d) (h2 : h d ρ = .ok ρ') : gAsg g h ρ = .ok (.nx ρ') := by
  unfold gAsg
  rw [h1, bnd_ok, h2]
theorem fnN_rt {m : Nat} {g : Gs} {ds : List Dt} {d : Dt} (h : g (ds ++ List.replicate (m - ds.length) .none) = .ok (.rt d)) : fnN m g ds = .ok d := by unfold fnN; rw [h]
theorem fnL_rt {m : Nat} {g : Gs} {ds : List Dt} {d : Dt} (h : g (ds ++ List.replicate (m - ds.length) .none) = .ok (.rt d)) : fnL m g ds = .ok d := by unfold fnL; rw [h]

/-! ### walks and comprehensions -/
theorem lcE_map {α : Type} (enc : α → Dt) (p : α → Bool) (q : α → Dt) {h : Dt → List Dt → O (List Dt)} {gt : List Dt → O Bool} {ge : Gd} {ρ : List Dt} : ∀ (xs : List α), (∀ x ∈ xs, ∃ ρ', h (enc x) ρ = .ok ρ' ∧ gt ρ' = .ok (p x) ∧ (p x = true → ge ρ' = .ok (q x))) →
    lcE h gt ge ρ (xs.map enc) = .ok ((xs.filter p).map q)
  | [], _ => rfl
  | x :: xs, H => by
    obtain ⟨ρ', h1, h2, h3⟩ := H x List.mem_cons_self
    have ih := lcE_map enc p q xs fun y hy => H y (List.mem_cons_of_mem _ hy)
    rw [List.map_cons]
    unfold lcE
    rw [h1, bnd_ok, h2, bnd_ok]
    cases hp : p x with
    | true => rw [if_pos rfl, h3 hp, bnd_ok, ih, bnd_ok, List.filter_cons_of_pos hp, List.map_cons]
    | false => rw [if_neg Bool.false_ne_true, ih, List.filter_cons_of_neg (by rw [hp]; exact Bool.false_ne_true)]
theorem gLc_map {α : Type} (enc : α → Dt) (p : α → Bool) (q : α → Dt) {gi : List Dt → O (List Dt)} {h : Dt → List Dt → O (List Dt)} {gt : List Dt → O Bool} {ge : Gd} {ρ : List Dt} {xs : List α} (h1 : gi ρ = .ok (xs.map enc)) (h2 : xs.length ≤ 100000)
    (H : ∀ x ∈ xs, ∃ ρ', h (enc x) ρ = .ok ρ' ∧ gt ρ' = .ok (p x) ∧ (p x = true → ge ρ' = .ok (q x))) : gLc gi h gt ge ρ = .ok (.list ((xs.filter p).map q)) := by
  unfold gLc
  rw [h1, bnd_ok, if_pos (by rw [List.length_map]; exact h2), lcE_map enc p q xs H]
/-- a for whose turns go on: the state is a fold -/
theorem forE_fold {α β : Type} (enc : α → Dt) (st : β → List Dt) (step : β → α → β) {h : Dt → List Dt → O (List Dt)} {b : Gs} (I : List α → β → Prop) : ∀ (xs : List α) (pre : List α) (s : β), I pre s →
    (∀ pre x s, x ∈ xs → I pre s → (∃ ρ1, h (enc x) (st s) = .ok ρ1 ∧ (b ρ1 = .ok (.nx (st (step s x))) ∨ b ρ1 = .ok (.ct (st (step s x))))) ∧ I (pre ++ [x]) (step s x)) →
    forE h b (xs.map enc) (st s) = .ok (.nx (st (xs.foldl step s))) ∧ I (pre ++ xs) (xs.foldl step s)
  | [], pre, s, hi, _ => ⟨rfl, by rw [List.append_nil]; exact hi⟩
  | x :: xs, pre, s, hi, H => by
    obtain ⟨⟨ρ1, h1, h2⟩, h3⟩ := H pre x s List.mem_cons_self hi
    have ih := forE_fold enc st step I xs (pre ++ [x]) (step s x) h3 fun pre y s hy hi => H pre y s (List.mem_cons_of_mem _ hy) hi
    rw [List.append_assoc] at ih
    refine ⟨?_, ih.2⟩
    rw [List.map_cons]
    unfold forE
    rw [h1]
    simp only
    rcases h2 with h2 | h2
    · rw [h2, bnd_ok]; exact ih.1
    · rw [h2, bnd_ok]; exact ih.1
/-- a for by an invariant over the states themselves -/
theorem forE_inv {α : Type} (enc : α → Dt) {h : Dt → List Dt → O (List Dt)} {b : Gs} (I : List α → List Dt → Prop) : ∀ (xs : List α) (pre : List α) (ρ : List Dt), I pre ρ →
    (∀ pre x ρ, x ∈ xs → I pre ρ → ∃ ρ1 ρ2, h (enc x) ρ = .ok ρ1 ∧ (b ρ1 = .ok (.nx ρ2) ∨ b ρ1 = .ok (.ct ρ2)) ∧ I (pre ++ [x]) ρ2) →
    ∃ ρ', forE h b (xs.map enc) ρ = .ok (.nx ρ') ∧ I (pre ++ xs) ρ'
  | [], pre, ρ, hi, _ => ⟨ρ, rfl, by rw [List.append_nil]; exact hi⟩
  | x :: xs, pre, ρ, hi, H => by
    obtain ⟨ρ1, ρ2, h1, h2, h3⟩ := H pre x ρ List.mem_cons_self hi
    obtain ⟨ρ', ih1, ih2⟩ := forE_inv enc I xs (pre ++ [x]) ρ2 h3 fun pre y s hy hi => H pre y s (List.mem_cons_of_mem _ hy) hi
    rw [List.append_assoc] at ih2
    refine ⟨ρ', ?_, ih2⟩
    rw [List.map_cons]
    unfold forE
    rw [h1]
    simp only
    rcases h2 with h2 | h2
    · rw [h2, bnd_ok]; exact ih1
    · rw [h2, bnd_ok]; exact ih1
/-- a for by an invariant over the turn's number -/
theorem forE_ix {α : Type} (enc : α → Dt) {h : Dt → List Dt → O (List Dt)} {b : Gs} (xs : List α) (I : Nat → List Dt → Prop) {ρ : List Dt} (h0 : I 0 ρ)
    (H : ∀ i ρ (hi : i < xs.length), I i ρ → ∃ ρ1 ρ2, h (enc xs[i]) ρ = .ok ρ1 ∧ (b ρ1 = .ok (.nx ρ2) ∨ b ρ1 = .ok (.ct ρ2)) ∧ I (i + 1) ρ2) :
    ∃ ρ', forE h b (xs.map enc) ρ = .ok (.nx ρ') ∧ I xs.length ρ' := by
  have key : ∀ n i ρ, i + n = xs.length → I i ρ → ∃ ρ', forE h b ((xs.drop i).map enc) ρ = .ok (.nx ρ') ∧ I xs.length ρ' := by
    intro n
    induction n with
    | zero =>
      intro i ρ e hi
      have e : i = xs.length := by omega
      subst e
      rw [List.drop_length]
      exact ⟨ρ, rfl, hi⟩
    | succ n ih =>
      intro i ρ e hi
      have hlt : i < xs.length := by omega
      obtain ⟨ρ1, ρ2, h1, h2, h3⟩ := H i ρ hlt hi
      obtain ⟨ρ', q1, q2⟩ := ih (i + 1) ρ2 (by omega) h3
      refine ⟨ρ', ?_, q2⟩
      rw [List.drop_eq_getElem_cons hlt, List.map_cons]
      unfold forE
      rw [h1]
      simp only
      rcases h2 with h2 | h2
      · rw [h2, bnd_ok]; exact q1
      · rw [h2, bnd_ok]; exact q1
  have := key xs.length 0 ρ (by omega) h0
  rwa [List.drop_zero] at this
theorem for_ok {gi : List Dt → O (List Dt)} {h : Dt → List Dt → O (List Dt)} {b : Gs} {ρ : List Dt} {ds : List Dt} {z : O Fl} (h1 : gi ρ = .ok ds) (h2 : forE h b ds ρ = z) : gFor gi h b ρ = z := by unfold gFor; rw [h1, bnd_ok, h2]
theorem while_f {t : List Dt → O Bool} {b : Gs} {n : Nat} {ρ : List Dt} (h : t ρ = .ok false) (hn : n ≠ 0 := by decide) : gWhile t b n ρ = .ok (.nx ρ) := by
  cases n with
  | zero => exact absurd rfl hn
  | succ n => unfold gWhile; rw [h]; rfl
theorem while_t {t : List Dt → O Bool} {b : Gs} {n : Nat} {ρ ρ' : List Dt} (h : t ρ = .ok true) (h2 : b ρ = .ok (.nx ρ')) : gWhile t b (n + 1) ρ = gWhile t b n ρ' := by
  conv => lhs; unfold gWhile
  simp only [h, bnd_ok, if_true, h2]
theorem rng1_ok {g : List Dt → O (List Dt)} {ρ : List Dt} {j : Int} (h : g ρ = .ok [.int j]) (h1 : -4611686018427387904 ≤ j) (h2 : j < 4611686018427387904) : gRng1 g ρ = .ok (rangeD 0 j) := by
  unfold gRng1
  rw [h, bnd_ok]
  unfold rng1
  simp only
  rw [if_pos (by constructor <;> omega)]
theorem rng2_ok {g : List Dt → O (List Dt)} {ρ : List Dt} {i j : Int} (h : g ρ = .ok [.int i, .int j]) (h1 : -4611686018427387904 ≤ j) (h2 : j < 4611686018427387904) (h3 : -4611686018427387904 ≤ i) (h4 : i < 4611686018427387904) : gRng2 g ρ = .ok (rangeD i j) := by
  unfold gRng2
  rw [h, bnd_ok]
  unfold rng2
  simp only
  rw [if_pos (by refine ⟨?_, ?_, ?_, ?_⟩ <;> omega)]
theorem rangeD_nat (n : Nat) : rangeD 0 (n : Int) = (List.range n).map fun (i : Nat) => PyData.int (i : Int) := by
  unfold rangeD
  rw [Int.sub_zero, Int.toNat_natCast]
  apply List.map_congr_left
  intro i _
  rw [Int.zero_add]
theorem seqG_l {g : Gd} {ρ : List Dt} {ds : List Dt} (h : g ρ = .ok (.list ds)) : gSeq g ρ = .ok ds := by unfold gSeq; rw [h]; rfl
theorem seqG_t {g : Gd} {ρ : List Dt} {ds : List Dt} (h : g ρ = .ok (.tuple ds)) : gSeq g ρ = .ok ds := by unfold gSeq; rw [h]; rfl

/-! ### lists of ints -/
abbrev dI (i : Int) : Dt := .int i
abbrev dIs (xs : List Int) : Dt := .list (xs.map .int)
theorem allI_map : ∀ xs : List Int, allI (xs.map .int) = some xs
  | [] => rfl
  | x :: xs => by rw [List.map_cons]; unfold allI; rw [allI_map xs]; rfl
theorem allB_map : ∀ xs : List Bool, allB (xs.map .bool) = some xs
  | [] => rfl
  | x :: xs => by rw [List.map_cons]; unfold allB; rw [allB_map xs]; rfl
theorem canLay_ints : ∀ xs : List Int, PyData.canLayAll0 (xs.map .int) = true
  | [] => by simp [PyData.canLayAll0]
  | x :: xs => by simp [PyData.canLayAll0, PyData.canLay0, canLay_ints xs]
theorem depth_ints : ∀ xs : List Int, PyData.depthAll (xs.map .int) = 0
  | [] => by simp [PyData.depthAll]
  | x :: xs => by simp [PyData.depthAll, PyData.depth, depth_ints xs]
theorem shaped_ints (xs : List Int) : SeqAt.shaped (.list (xs.map .int)) = true := by simp [SeqAt.shaped, PyData.canLay0, PyData.depth, canLay_ints, depth_ints]
theorem shaped_intsT (xs : List Int) : SeqAt.shaped (.tuple (xs.map .int)) = true := by simp [SeqAt.shaped, PyData.canLay0, PyData.depth, canLay_ints, depth_ints]
theorem eqvAll_ints : ∀ xs ys : List Int, PyData.eqvAll (xs.map .int) (ys.map .int) = decide (xs = ys)
  | [], [] => by simp [PyData.eqvAll]
  | [], _ :: _ => by simp [PyData.eqvAll]
  | _ :: _, [] => by simp [PyData.eqvAll]
  | x :: xs, y :: ys => by
    simp only [List.map_cons, PyData.eqvAll, PyData.eqv, eqvAll_ints xs ys]
    by_cases h1 : x = y <;> by_cases h2 : xs = ys <;> simp [h1, h2]
theorem hEq_ints (xs ys : List Int) : hEq (.list (xs.map .int)) (.list (ys.map .int)) = .ok (.bool (decide (xs = ys))) := by
  unfold hEq; rw [shaped_ints, shaped_ints]; simp only [PyData.eqv, eqvAll_ints, Bool.and_self, if_true]
theorem hNe_ints (xs ys : List Int) : hNe (.list (xs.map .int)) (.list (ys.map .int)) = .ok (.bool (!decide (xs = ys))) := by
  unfold hNe; rw [shaped_ints, shaped_ints]; simp only [PyData.eqv, eqvAll_ints, Bool.and_self, if_true]
theorem any_ints (i : Int) : ∀ xs : List Int, ((xs.map PyData.int).any fun z => PyData.eqv z (.int i)) = decide (i ∈ xs)
  | [] => by simp
  | x :: xs => by
    rw [List.map_cons, List.any_cons, any_ints i xs]
    simp only [PyData.eqv, List.mem_cons]
    by_cases h : x = i
    · subst h; simp
    · have h' : ¬ i = x := fun e => h e.symm
      simp [h, h']
theorem hIn_ints (i : Int) (xs : List Int) : hIn (.int i) (.list (xs.map .int)) = .ok (.bool (decide (i ∈ xs))) := by
  unfold hIn; simp only [shaped_int, shaped_ints, Bool.and_self, if_true, any_ints]
theorem hNotIn_ints (i : Int) (xs : List Int) : hNotIn (.int i) (.list (xs.map .int)) = .ok (.bool (!decide (i ∈ xs))) := by
  unfold hNotIn; simp only [shaped_int, shaped_ints, Bool.and_self, if_true, any_ints]
theorem hIn_intsT (i : Int) (xs : List Int) : hIn (.int i) (.tuple (xs.map .int)) = .ok (.bool (decide (i ∈ xs))) := by
  unfold hIn; simp only [shaped_int, shaped_intsT, Bool.and_self, if_true, any_ints]
theorem hNotIn_intsT (i : Int) (xs : List Int) : hNotIn (.int i) (.tuple (xs.map .int)) = .ok (.bool (!decide (i ∈ xs))) := by
  unfold hNotIn; simp only [shaped_int, shaped_intsT, Bool.and_self, if_true, any_ints]
theorem hSorted_ints (xs : List Int) : one hSorted [.list (xs.map .int)] = .ok (.list ((isort xs).map .int)) := by
  unfold one hSorted; simp only [allI_map]
theorem pureA_ints : ∀ xs : List Int, pureA (xs.map .int) = true
  | [] => rfl
  | x :: xs => by rw [List.map_cons]; unfold pureA; rw [pureA_ints xs]; rfl
theorem atI_map {α β : Type} (f : α → β) {xs : List α} {i : Int} (h0 : 0 ≤ i) (h1 : i < xs.length) : L2.atI (xs.map f) i = some (f (xs[i.toNat]'(by omega))) := by
  obtain ⟨j, rfl⟩ : ∃ j : Nat, i = j := ⟨i.toNat, by omega⟩
  have hj : j < xs.length := by omega
  refine L2.atI_nat ?_
  rw [List.getElem?_map, List.getElem?_eq_getElem hj]
  rfl
theorem hIx_l {ds : List Dt} {i : Int} {z : Dt} (h : L2.atI ds i = some z) : hIx (.list ds) (.int i) = .ok z := by unfold hIx; simp only [h]
theorem hIx_t {ds : List Dt} {i : Int} {z : Dt} (h : L2.atI ds i = some z) : hIx (.tuple ds) (.int i) = .ok z := by unfold hIx; simp only [h]
theorem hIx_ints {xs : List Int} {i : Int} (h0 : 0 ≤ i) (h1 : i < xs.length) : hIx (.list (xs.map .int)) (.int i) = .ok (.int (xs[i.toNat]'(by omega))) := hIx_l (atI_map _ h0 h1)
theorem sIx_none (n d : Nat) : HT.sIx n d none = d := rfl
theorem cutD_from {α : Type} (f : α → Dt) (xs : List α) (k : Nat) : cutD (xs.map f) (some (k : Int)) none = (xs.drop k).map f := by
  unfold cutD
  rw [HT.sIx_nat, sIx_none, List.length_map]
  rcases Nat.lt_or_ge k xs.length with h | h
  · rw [Nat.min_eq_left (Nat.le_of_lt h), ← List.map_drop, List.take_of_length_le (by rw [List.length_map, List.length_drop]; omega)]
  · rw [Nat.min_eq_right h, List.drop_of_length_le (by rw [List.length_map]; omega), List.drop_of_length_le h]
    simp
theorem cutD_to {α : Type} (f : α → Dt) (xs : List α) (k : Nat) : cutD (xs.map f) none (some (k : Int)) = (xs.take k).map f := by
  unfold cutD
  rw [HT.sIx_nat, sIx_none, List.length_map, List.drop_zero, Nat.sub_zero, ← List.map_take]
  rcases Nat.lt_or_ge k xs.length with h | h
  · rw [Nat.min_eq_left (Nat.le_of_lt h)]
  · rw [Nat.min_eq_right h, List.take_of_length_le (Nat.le_refl _), List.take_of_length_le h]
theorem hSl_from {α : Type} (f : α → Dt) (xs : List α) (k : Nat) : hSl (.list (xs.map f)) (some (k : Int)) none = .ok (.list ((xs.drop k).map f)) := by unfold hSl; rw [← cutD_from]
theorem hSl_to {α : Type} (f : α → Dt) (xs : List α) (k : Nat) : hSl (.list (xs.map f)) none (some (k : Int)) = .ok (.list ((xs.take k).map f)) := by unfold hSl; rw [← cutD_to]
theorem hCat_l {xs ys : List Dt} (h : xs.length + ys.length ≤ 100000) : hCat (.list xs) (.list ys) = .ok (.list (xs ++ ys)) := by unfold hCat; simp only [h, if_true]
theorem hCat_map {α : Type} (f : α → Dt) (xs ys : List α) (h : xs.length + ys.length ≤ 100000) : hCat (.list (xs.map f)) (.list (ys.map f)) = .ok (.list ((xs ++ ys).map f)) := by
  rw [hCat_l (by rw [List.length_map, List.length_map]; exact h), List.map_append]
theorem hRep_l {xs : List Dt} {k : Int} (h0 : 0 ≤ k) (h1 : k < 100) (h : xs.length ≤ 1000) : hRep (.list xs) (.int k) = .ok (.list (List.replicate k.toNat xs).flatten) := by
  unfold hRep
  simp only
  rw [if_pos]
  refine ⟨by omega, by omega, ?_⟩
  have : xs.length * k.toNat ≤ 1000 * 100 := Nat.mul_le_mul h (by omega)
  omega

/-! ### sorting ints -/
theorem isort_eq {a b : List Int} (p : a.Perm b) : isort a = isort b := sorted_unique ((isort_perm a).trans (p.trans (isort_perm b).symm)) (isort_sorted a) (isort_sorted b)
theorem isort_id {a : List Int} (h : a.Pairwise (· ≤ ·)) : isort a = a := sorted_unique (isort_perm a) (isort_sorted a) h
theorem seq_step {a b : Gs} {ρ ρ' : List Dt} {z : O Fl} (h : a ρ = .ok (.nx ρ')) (k : b ρ' = z) : gSeqS a b ρ = z := by rw [seq_nx h]; exact k
theorem gCallN_def (n : Nat) (g : List Dt → O Dt) (gA : List Dt → O (List Dt)) (ρ : List Dt) : gCallN n g gA ρ = bnd (gA ρ) fun ds => if ds.length = n then (match g ds with | .ok d => .ok d | _ => .bad) else .bad := rfl
theorem gAsg_def (g : Gd) (h : Dt → List Dt → O (List Dt)) (ρ : List Dt) : gAsg g h ρ = bnd (g ρ) fun d => match h d ρ with | .ok ρ' => .ok (.nx ρ') | _ => .bad := rfl
theorem gSl_def (h : Dt → Option Int → Option Int → O Dt) (g : Gd) (gl gh : List Dt → O (Option Int)) (ρ : List Dt) : gSl h g gl gh ρ = bnd (g ρ) fun d => bnd (gl ρ) fun lo => bnd (gh ρ) fun hi => h d lo hi := rfl
theorem gNoPart_def (ρ : List Dt) : gNoPart ρ = .ok none := rfl
theorem gPart_def (g : Gd) (ρ : List Dt) : gPart g ρ = bnd (g ρ) fun d => match d with | .int i => .ok (some i) | _ => .bad := rfl
theorem hSl_from' {α : Type} (f : α → Dt) (xs : List α) {k : Int} (h : 0 ≤ k) : hSl (.list (xs.map f)) (some k) none = .ok (.list ((xs.drop k.toNat).map f)) := by
  have := hSl_from f xs k.toNat
  rwa [show ((k.toNat : Nat) : Int) = k by omega] at this
theorem hSl_to' {α : Type} (f : α → Dt) (xs : List α) {k : Int} (h : 0 ≤ k) : hSl (.list (xs.map f)) none (some k) = .ok (.list ((xs.take k.toNat).map f)) := by
  have := hSl_to f xs k.toNat
  rwa [show ((k.toNat : Nat) : Int) = k by omega] at this
/-- the places -/
def pl (n : Int) : List Int := (List.range n.toNat).map fun (i : Nat) => (i : Int)
theorem rangeD_pl (n : Int) : rangeD 0 n = (pl n).map .int := by
  unfold rangeD pl
  rw [List.map_map, Int.sub_zero]
  apply List.map_congr_left
  intro i _
  show PyData.int (0 + (i : Int)) = PyData.int (i : Int)
  rw [Int.zero_add]
theorem mem_pl {n p : Int} : p ∈ pl n ↔ 0 ≤ p ∧ p < n := by
  unfold pl
  rw [List.mem_map]
  constructor
  · rintro ⟨i, h, rfl⟩
    rw [List.mem_range] at h
    omega
  · rintro ⟨h1, h2⟩
    exact ⟨p.toNat, List.mem_range.mpr (by omega), by omega⟩
theorem pl_len (n : Int) : (pl n).length = n.toNat := by unfold pl; rw [List.length_map, List.length_range]
theorem pl_nodup (n : Int) : (pl n).Nodup := by
  unfold pl
  refine List.Pairwise.map _ (fun a b h => ?_) List.nodup_range
  omega
theorem pl_sorted (n : Int) : (pl n).Pairwise (· < ·) := by
  unfold pl
  refine List.Pairwise.map _ (fun a b h => ?_) List.pairwise_lt_range
  omega
theorem map_snoc (xs : List Int) (z : Int) : xs.map PyData.int ++ [PyData.int z] = (xs ++ [z]).map PyData.int := by rw [List.map_append]; rfl
end Sim
end T_SimP

section T_SimI
set_option Elab.async false
set_option linter.all false
set_option maxRecDepth 100000
/-! SimI: isinstance, what is never reached, enumerate, reversed, zip, list(range), list(reversed). -/
namespace Sim
open PySem PySem.Spec L2
open PyProof.Rows hiding St

/-! ### list(reversed(list)) -/
section
variable {prog : Program} {w : World} {A : Around} {E : Value → Shared → Prop} {s : Shared}
theorem extend_rev {R : Result → Shared → Prop} {it l : Addr} {items : Array Value} (hh : A.handled = none) (hit : s.heap.IsRevIter it l ((items.size : Int) - 1)) (hl : s.heap.IsList l items) (hne : l ≠ it) (hn : items.size ≤ sizeLine)
    (S : Addr) (res : Value) {c₀ : Nat} (hS : s.heap.get? S = some { cls := .type "list", data := .seq #[] c₀ })
    (hSi : S ≠ it) (hSl : S ≠ l)
    (hR : ∀ h' tk acc' c', (∀ b o, b ≠ S → b ≠ it → s.heap.get? b = some o → h'.get? b = some o) → h'.get? S = some { cls := .type "list", dict := none, data := .seq acc' c', slots := #[] } →
      ItemsOf (fun i v => items[items.size - 1 - i]? = some v) acc' items.size → R (.ok (.ret res)) { s with heap := h', toks := tk }) :
    wpAny (model prog w) A.in1 (Builtin.List.listExtendWith (.ref S) (.ref it) res)
      (fun fin s' => match fin with | .done f => R (.ok f) s' | .again c' => c'.quiet = true ∧ codeAny (model prog w) A c' R s') (fun e s' => R (.error e) s') s := by
  have W := (Walks.listRev (prog := prog) (w := w) (A := A.in1) hh it l hne items).toS
  have hSf : S ∉ [it, l] := by simp only [List.mem_cons, List.not_mem_nil, or_false, not_or]; exact ⟨hSi, hSl⟩
  have hT : s.TypeIs (.ref it) "list_reverseiterator" := hit.typeIs
  have h1 : Builtin.List.listSameRef (.ref S) (.ref it) = false := by simp [Builtin.List.listSameRef, hSi]
  unfold Builtin.List.listExtendWith
  refine wpAny_bind (wpAny_typeOf hT ?_)
  rw [if_neg (by rw [h1]; decide)]
  refine wpAny_bind (wpAny_pyIter_revIter hit ?_)
  refine wpAny_bind (wpAny_holding ?_)
  unfold Builtin.List.listLengthHint
  refine wpAny_bind (wpAny_specialOf hT RT.nolen_lri ?_)
  show wpAny _ A.in1 (specialOf (Value.ref it) (Str.ofString "__length_hint__") >>= _) _ _ _
  refine wpAny_bind (wpAny_specialOf hT RT.hint_lri ?_)
  generalize hid : ("list_reverseiterator.__length_hint__" : String) = id0
  wp_delta
  rw [show splitId id0 = some ("list_reverseiterator", "__length_hint__") from by subst hid; decide +kernel]
  subst hid
  refine wpAny_bind (wpAny_isInstance (b := true) hT (by rw [isSubtype_type]; kernel_rfl) ?_)
  refine wpAny_pure ?_
  rw [if_neg (by decide)]
  have e0 : ((items.size : Nat) : Int) - 1 - ((0 : Nat) : Int) = (items.size : Int) - 1 := by omega
  refine wpAny_pure ⟨plainId_quiet F.plain_extend_loop _, codeAny_extend_loopS W hn _ hSf _ items.size 0 _ _ _ rfl (Nat.zero_le _) ⟨Nat.zero_le _, by rw [e0]; exact hit, hl⟩ hS (ItemsOf.nil _) fun s' acc' c' hm hS' hacc => ?_⟩
  rw [Moved.eq_with hm]
  refine hR s'.heap s'.toks acc' c' (fun b o hb hb2 e => hm.heap b o (fun hmem => ?_) e) hS' hacc
  rcases List.mem_cons.mp hmem with e' | hmem
  · exact hb e'
  · exact hb2 (List.mem_singleton.mp hmem)
theorem list_init_rev {R : Result → Shared → Prop} {it l : Addr} {items : Array Value} (hh : A.handled = none) (hit : s.heap.IsRevIter it l ((items.size : Int) - 1)) (hl : s.heap.IsList l items) (hne : l ≠ it) (hn : items.size ≤ sizeLine)
    (S : Addr) (hS : s.heap.get? S = some { cls := .type "list", data := .seq #[] }) (hSi : S ≠ it) (hSl : S ≠ l)
    (hR : ∀ h' tk acc' c', (∀ b o, b ≠ S → b ≠ it → s.heap.get? b = some o → h'.get? b = some o) → h'.get? S = some { cls := .type "list", dict := none, data := .seq acc' c', slots := #[] } →
      ItemsOf (fun i v => items[items.size - 1 - i]? = some v) acc' items.size → R (.ok (.ret .none)) { s with heap := h', toks := tk }) :
    wpAny (model prog w) A.in1 (Builtin.«list.__init__» ⟨[.ref S, .ref it], []⟩)
      (fun fin s' => match fin with | .done f => R (.ok f) s' | .again c' => c'.quiet = true ∧ codeAny (model prog w) A c' R s') (fun e s' => R (.error e) s') s := by
  show wpAny _ _ (do let old ← Builtin.List.listItems (.ref S); Builtin.List.listUpdate (.ref S) (fun _ => #[]); letGo old.toList.reverse; Builtin.List.listExtendWith (.ref S) (.ref it) .none) _ _ s
  refine wpAny_bind ?_
  unfold Builtin.List.listItems
  refine wpAny_bind (wpAny_seqItems hS rfl (wpAny_pure ?_))
  show wpAny _ _ (updateSeq S (fun _ => #[]) >>= fun _ => letGo (#[] : Array Value).toList.reverse >>= fun _ => Builtin.List.listExtendWith (.ref S) (.ref it) .none) _ _ s
  refine wpAny_bind (wpAny_updateSeq hS rfl ?_)
  have hS₂ := Heap.get?_update_self (Obj.mapSeq (fun _ => (#[] : Array Value))) hS rfl
  have oth : ∀ b o, b ≠ S → s.heap.get? b = some o → (s.heap.update S (Obj.mapSeq (fun _ => (#[] : Array Value)))).get? b = some o :=
    fun b o hb e => (Heap.get?_update_other _ _ (Ne.symm hb)).trans e
  refine wpAny_bind (wpAny_letGo ?_)
  exact extend_rev (s := { s with heap := s.heap.update S (Obj.mapSeq (fun _ => (#[] : Array Value))) }) hh (hit.at fun o e => oth it o (Ne.symm hSi) e) (hl.at fun o e => oth l o (Ne.symm hSl) e) hne hn S .none hS₂ hSi hSl fun h' tk acc' c' hk hS' hacc =>
    hR h' tk acc' c' (fun b o hb hb2 e => hk b o hb hb2 (oth b o hb e)) hS' hacc
theorem call_list_rev {it l : Addr} {items : Array Value} {Q : Value → Shared → Prop} (hh : A.handled = none) (hit : s.heap.IsRevIter it l ((items.size : Int) - 1)) (hl : s.heap.IsList l items) (hne : l ≠ it) (hn : items.size ≤ sizeLine)
    (hQ : ∀ h' tk acc' c', (∀ b o, b ≠ it → s.heap.get? b = some o → h'.get? b = some o) →
      h'.get? s.heap.objs.size = some { cls := .type "list", dict := none, data := .seq acc' c', slots := #[] } → ItemsOf (fun i v => items[items.size - 1 - i]? = some v) acc' items.size → Q (.ref s.heap.objs.size) { s with heap := h', toks := tk }) :
    wpAny (model prog w) A (call (.type "list") [.ref it]) Q E s := by
  refine callType_codes (Q₁ := fun obj s₁ => obj = .ref s.heap.objs.size ∧ s₁ = { s with heap := s.heap.push { cls := .type "list", data := .seq #[] } }) F.called_list (F.typeCall_list_1 _) F.entry_list_init
    (code_list_new _ ⟨rfl, rfl⟩) fun obj s₁ h₁ => ?_
  obtain ⟨rfl, rfl⟩ := h₁
  have hS : (s.heap.push { cls := .type "list", data := .seq #[] }).get? s.heap.objs.size = some { cls := .type "list", data := .seq #[] } := Heap.get?_push_size _ rfl
  obtain ⟨oi, hoi, _⟩ := id hit
  obtain ⟨ol, hol, _⟩ := id hl
  refine ⟨⟨_, hS, rfl⟩, F.args_list_init_2 _ _, list_init_rev (A := A.in1) (s := { s with heap := s.heap.push { cls := .type "list", data := .seq #[] } }) hh (hit.at fun o e => Heap.get?_push_of_some _ e) (hl.push _) hne hn _ hS (Nat.ne_of_gt (Heap.lt_size hoi)) (Nat.ne_of_gt (Heap.lt_size hol)) fun h' tk acc' c' hk hS' hacc => ?_⟩
  exact ⟨rfl, hQ h' tk acc' c' (fun b o hb e => hk b o (Nat.ne_of_lt (Heap.lt_size e)) hb (Heap.get?_push_of_some _ e)) hS' hacc⟩
end
def tLstRev (K : PySem.W.Frag) (te : TE) : TE := fun σ H Q => te σ H fun v H1 => ∃ (a : Addr) (xs : List V), v = .ref a ∧ SqL K H1 a xs ∧ ∀ q, H1 q = none → Q (.ref q) (upd H1 q (.lst xs.reverse))
section
variable {X : Cx}
theorem pe_lstRev {e : Expr} {te : TE} {p p2 pos pos2 : Pos} (hc : X.calm = true) (hg : Gl X "list") (hm : X.mg "list" = none) (hg2 : Gl X "reversed") (hm2 : X.mg "reversed" = none) (he : PE X e te)
    (hs : starEach [e] X.env = (false, eval e X.env) :: starEach [] X.env := by rfl)
    (hs2 : starEach [.Call (.Name "reversed" p2) [e] [] pos2] X.env = (false, eval (.Call (.Name "reversed" p2) [e] [] pos2) X.env) :: starEach [] X.env := by rfl) :
    PE X (.Call (.Name "list" p) [.Call (.Name "reversed" p2) [e] [] pos2] [] pos) (tLstRev X.K te) := by
  refine ⟨fun pins s σ H Q I h => ?_⟩
  refine Call_ (ld_blt I hg hm boot_list (PyProof.Rows.callWith_type1 (args_cons (Call_ (ld_blt I hg2 hm2 PyProof.Rows.boot_reversed (PyProof.Rows.callWith_type1 (args_cons (thn (he.run pins s σ H _ I h) fun u s1 ⟨v, H1, I1, r1, q1⟩ => args_nil ?_) hs) hs rfl))) hs2) hs2 rfl))
  obtain ⟨a, xs, ev, hq, q⟩ := q1
  subst ev
  obtain rfl : u = Value.ref a := r1
  obtain ⟨its, rv, p', hz⟩ := I1.list hq
  refine call_reversed_list p'.isList (args_nil ?_)
  have k0 : ∀ b o, s1.heap.get? b = some o → (s1.heap.push (revObj a ((its.toArray.size : Int) - 1))).get? b = some o := fun b o e => Heap.get?_push_of_some _ e
  have I2 : Inv X pins σ H1 { s1 with heap := s1.heap.push (revObj a ((its.toArray.size : Int) - 1)) } := I1.kept (t' := s1.toks) k0
  obtain ⟨f0, f1, f2, f3, f4, f5⟩ := I1.fpOk (H' := H1) (b := s1.heap.objs.size) (Nat.le_refl _) (I1.hok.fresh (Nat.le_refl _))
  have hl := p'.isList
  obtain ⟨ol, hol, _⟩ := id hl
  have hne : a ≠ s1.heap.objs.size := Nat.ne_of_lt (Heap.lt_size hol)
  have hn : its.toArray.size ≤ sizeLine := by rw [List.size_toArray, ← rv.length]; exact hz
  refine call_list_rev (s := { s1 with heap := s1.heap.push (revObj a ((its.toArray.size : Int) - 1)) }) (I1.ok.hd hc) ⟨_, Heap.get?_push_size _ rfl, rfl, rfl⟩ (hl.push _) hne hn fun h' tk acc c' hk he' hi => ?_
  have I3 : Inv X pins σ H1 { s1 with heap := h', toks := tk } := I2.turned (t' := tk) (fun b o hb e => hk b o hb e) f0 f1 f3 f4 f5
  refine ⟨.ref (s1.heap.push (revObj a ((its.toArray.size : Int) - 1))).objs.size, upd H1 (s1.heap.push (revObj a ((its.toArray.size : Int) - 1))).objs.size (.lst xs.reverse), ?_, rfl, q _ (I2.hok.fresh (Nat.le_refl _))⟩
  refine I2.turnedNew (t' := tk) (ch := [s1.heap.objs.size]) (fun b o hb e => hk b o (fun z => hb (by simp [z])) e) (fun b hb => ?_) (Nat.le_refl _) (show ObjOk X.prog X.w _ _ _ (.lst xs.reverse) from ⟨by rw [List.length_reverse]; exact hz, acc.toList, c', RT.vals_rev rv hi, ?_⟩)
  · have e : b = s1.heap.objs.size := by simpa using hb
    subst e
    exact ⟨f0, f1, f2, f3, f4, f5⟩
  · rw [Array.toArray_toList]; exact he'
end

/-! ### isinstance -/
inductive Ty5 where
  | int | bool | str | list | tuple
def Ty5.nm : Ty5 → String
  | .int => "int"
  | .bool => "bool"
  | .str => "str"
  | .list => "list"
  | .tuple => "tuple"
def isaB (T : Ty5) : Dt → Option Bool
  | .none => some false
  | .bool _ => some (match T with | .bool => true | .int => true | _ => false)
  | .int _ => some (match T with | .int => true | _ => false)
  | .str _ => some (match T with | .str => true | _ => false)
  | .list _ => some (match T with | .list => true | _ => false)
  | .tuple _ => some (match T with | .tuple => true | _ => false)
  | _ => none
def hIsa (T : Ty5) : Dt → O Dt := fun d => match isaB T d with
  | some b => .ok (.bool b)
  | none => .bad
theorem scl_isa {T : Ty5} : Scl1 (hIsa T) := fun d => by
  unfold hIsa
  cases isaB T d with
  | none => exact .inr rfl
  | some b => exact .inl ⟨_, rfl, rfl⟩
section
variable {K : PySem.W.Frag} {W : Wt} {Δ : List Kd} {te : TE} {g : Gd} {av fr : Bool} {T : Ty5}
theorem kit_non : PySem.W.kitOne K (.type "NoneType") (.type T.nm) = some false := by cases T <;> exact kit_ty (by decide +kernel)
theorem kit_bl : PySem.W.kitOne K (.type "bool") (.type T.nm) = some (match T with | .bool => true | .int => true | _ => false) := by cases T <;> exact kit_ty (by decide +kernel)
theorem kit_int : PySem.W.kitOne K (.type "int") (.type T.nm) = some (match T with | .int => true | _ => false) := by cases T <;> exact kit_ty (by decide +kernel)
theorem kit_str : PySem.W.kitOne K (.type "str") (.type T.nm) = some (match T with | .str => true | _ => false) := by cases T <;> exact kit_ty (by decide +kernel)
theorem kit_list : PySem.W.kitOne K (.type "list") (.type T.nm) = some (match T with | .list => true | _ => false) := by cases T <;> exact kit_ty (by decide +kernel)
theorem kit_tuple : PySem.W.kitOne K (.type "tuple") (.type T.nm) = some (match T with | .tuple => true | _ => false) := by cases T <;> exact kit_ty (by decide +kernel)
theorem rp_isa {F : Addr → Prop} {H : Hp} {v : V} {d : Dt} {b : Bool} (h : Rp K F H v d) (e : isaB T d = some b) : ∃ t, TyX K H v t ∧ PySem.W.kitOne K t (.type T.nm) = some b := by
  cases h with
  | non => cases e; exact ⟨_, .base .non, kit_non⟩
  | bl x => cases e; exact ⟨_, .base (.bl x), kit_bl⟩
  | int x => cases e; exact ⟨_, .base (.int x), kit_int⟩
  | str x => cases e; exact ⟨_, .base (.str x), kit_str⟩
  | lst hp _ _ => cases e; exact ⟨_, .base (.lst hp), kit_list⟩
  | fz hp _ =>
    cases e
    rcases hp with ⟨o, hp⟩ | ⟨o, its, n, hp, hc, _⟩
    · exact ⟨_, .base (.frz hp), kit_list⟩
    · exact ⟨_, .kList hp hc, kit_list⟩
  | tup hp _ =>
    cases e
    rcases hp with (hp | ⟨o, hp⟩) | ⟨o, its, n, hp, hc, _⟩
    · exact ⟨_, .base (.tup hp), kit_tuple⟩
    · exact ⟨_, .fTuple hp, kit_tuple⟩
    · exact ⟨_, .kTuple hp hc, kit_tuple⟩
theorem se_isa (ha : SE K W Δ te (.v av fr) g) : SE K W Δ (tCB (rIsi K) (tCons te (tCons (tC (.ty T.nm)) tNil))) (.v true true) (gUn (hIsa T) g) := fun f ρ σ H Q R q => by
  refine ha f ρ σ H _ R ?_
  unfold gUn at q
  cases e1 : g ρ with
  | bad => rw [e1] at q; exact q
  | ex z => rw [e1] at q; exact q
  | ok d =>
    rw [e1, bnd_ok] at q
    intro v H1 s1 x1
    unfold hIsa at q
    cases e2 : isaB T d with
    | none => rw [e2] at q; exact q.elim
    | some b =>
      rw [e2] at q
      obtain ⟨t, h1, h2⟩ := rp_isa x1 e2
      exact ⟨v, .ty T.nm, t, .type T.nm, b, rfl, .ty _, h1, h2, q _ H1 s1 (.bl b)⟩
end
section
variable {X : Cx} {K : PySem.W.Frag} {W : Wt} {Δ Δn Δb Δc : List Kd} {a b e : Expr} {es : List Expr} {ta tb te : TE} {tA : TA} {g ga : Gd} {gA : List Dt → O (List Dt)} {av fr L : Bool} {pos : Pos} {st : Stmt}
theorem x_isa (T : Ty5) {x : Str} {p p2 : Pos} (hm : X.mg "isinstance" = none) (hm2 : X.mg x = none) (h : PD X K W Δ e te (.v av fr) g) (hv : bootBuiltins x = some (.type T.nm) := by decide +kernel) (hg2 : Gl X x := by rfl) (hn : x ≠ "__name__" := by decide) (hdb : (x == ("__debug__" : Str)) = false := by decide)
    (hg : Gl X "isinstance" := by rfl)
    (he : starEach [e, .Name x p2] X.env = (false, eval e X.env) :: starEach [.Name x p2] X.env := by rfl) (he2 : starEach [.Name x p2] X.env = (false, eval (.Name x p2) X.env) :: starEach [] X.env := by rfl) (hpl : (backTo pos (starEach [.Name x p2] X.env)).any (·.1) = false := by rfl) :
    PD X K W Δ (.Call (.Name "isinstance" p) [e, .Name x p2] [] pos) (tCB (rIsi K) (tCons te (tCons (tC (.ty T.nm)) tNil))) (.v true true) (gUn (hIsa T) g) :=
  ⟨pe_callB (by have q := call_isi (X := X); rw [h.hK] at q; exact q) hg hm (by decide +kernel) (pa_cons h.pe (pa_cons (pe_bltn hg2 hm2 hv rfl hn hdb) pa_nil he2) he) (by decide) (by decide) he hpl, h.hK, se_isa h.se⟩

/-! ### what is never reached -/
def gBad : Gs := fun _ => .bad
theorem z_never (hK : X.K = K := by rfl) : SD X K W L Δ Δn Δb Δc st tNever gBad := ⟨ps_never, hK, fun f ρ σ H E r q => q.elim⟩

/-! ### enumerate, reversed, zip -/
def lst1 : List Dt → Option (List Dt)
  | [.list es] => some es
  | _ => none
def lst2 : List Dt → Option (List Dt × List Dt)
  | [.list es, .list es2] => some (es, es2)
  | _ => none
theorem lst1_inv {ds es : List Dt} (h : lst1 ds = some es) : ds = [.list es] := by
  unfold lst1 at h
  split at h
  · cases h; rfl
  · cases h
theorem lst2_inv {ds : List Dt} {p : List Dt × List Dt} (h : lst2 ds = some p) : ds = [.list p.1, .list p.2] := by
  unfold lst2 at h
  split at h
  · cases h; rfl
  · cases h
def enumD (es : List Dt) : List Dt := es.zipIdx.map fun p => .tuple [.int (p.2 : Nat), p.1]
def zipD (es es2 : List Dt) : List Dt := (es.zip es2).map fun p => .tuple [p.1, p.2]
def gEnum (gA : List Dt → O (List Dt)) : List Dt → O (List Dt) := fun ρ => bnd (gA ρ) fun ds => match lst1 ds with
  | some es => .ok (enumD es)
  | none => .bad
def gRev (gA : List Dt → O (List Dt)) : List Dt → O (List Dt) := fun ρ => bnd (gA ρ) fun ds => match lst1 ds with
  | some es => .ok es.reverse
  | none => .bad
def gZip (gA : List Dt → O (List Dt)) : List Dt → O (List Dt) := fun ρ => bnd (gA ρ) fun ds => match lst2 ds with
  | some p => .ok (zipD p.1 p.2)
  | none => .bad
theorem sc_enum {c : Addr} {es : List Dt} : Sc K (Ite K c) none [.ref c] [.list es] (enumD es) where
  goes := fun i H hi ⟨_, F, r⟩ => by
    cases r with
    | cons h _ =>
      obtain ⟨b, xs, e, hs, r⟩ := h.sql
      cases e
      have hx : i < xs.length := by rw [r.length]; unfold enumD at hi; simpa using hi
      exact ⟨xs, xs[i], hs, List.getElem?_eq_getElem hx⟩
  stops := fun H ⟨_, F, r⟩ => by
    cases r with
    | cons h _ =>
      obtain ⟨b, xs, e, hs, r⟩ := h.sql
      cases e
      exact ⟨xs, hs, by rw [r.length]; unfold enumD; simp⟩
  yields := fun i H x H' hi _ y => by
    obtain ⟨T, z, e, nT, eH, y⟩ := y
    subst e eH
    refine ⟨same_upd nT, fun F r => ?_⟩
    cases r with
    | cons h _ =>
      obtain ⟨b, xs, e, hs, r⟩ := h.sql
      cases e
      obtain ⟨d, h1, h2⟩ := r.get (y xs hs)
      refine ⟨.tuple [.int (i : Nat), d], ?_, .tup (.inl (.inl upd_same)) (.cons (.int _) (.cons (h2.same (same_upd nT)) .nil))⟩
      unfold enumD
      rw [List.getElem?_map, List.getElem?_zipIdx, h1]
      simp
theorem sc_rev {c : Addr} {es : List Dt} {n : Nat} (hn : n = es.length) : Sc K (Itv K c n) none [.ref c] [.list es] es.reverse where
  goes := fun i H hi ⟨_, F, r⟩ => by
    cases r with
    | cons h _ =>
      obtain ⟨b, xs, e, hs, r⟩ := h.sql
      cases e
      rw [List.length_reverse] at hi
      have hx : n - 1 - i < xs.length := by rw [r.length]; omega
      exact ⟨by omega, xs, _, hs, List.getElem?_eq_getElem hx⟩
  stops := fun H _ => by rw [List.length_reverse]; exact Nat.le_of_eq hn
  yields := fun i H x H' hi _ y => by
    obtain ⟨e, y⟩ := y
    subst e
    refine ⟨Same.refl _, fun F r => ?_⟩
    cases r with
    | cons h _ =>
      obtain ⟨b, xs, e, hs, r⟩ := h.sql
      cases e
      obtain ⟨d, h1, h2⟩ := r.get (y xs hs)
      rw [List.length_reverse] at hi
      exact ⟨d, by rw [List.getElem?_reverse hi, ← hn]; exact h1, h2⟩
theorem sc_zip {c c2 : Addr} {es es2 : List Dt} : Sc K (Itz K c c2) none [.ref c, .ref c2] [.list es, .list es2] (zipD es es2) where
  goes := fun i H hi ⟨_, F, r⟩ => by
    cases r with
    | cons h r2 =>
      cases r2 with
      | cons h2 _ =>
        obtain ⟨b, xs, e, hs, r⟩ := h.sql
        cases e
        obtain ⟨b, xs2, e, hs2, r2⟩ := h2.sql
        cases e
        have hl : i < es.length ∧ i < es2.length := by unfold zipD at hi; rw [List.length_map, List.length_zip] at hi; omega
        exact ⟨xs, xs2, _, _, hs, hs2, List.getElem?_eq_getElem (by rw [r.length]; exact hl.1), List.getElem?_eq_getElem (by rw [r2.length]; exact hl.2)⟩
  stops := fun H ⟨_, F, r⟩ => by
    cases r with
    | cons h r2 =>
      cases r2 with
      | cons h2 _ =>
        obtain ⟨b, xs, e, hs, r⟩ := h.sql
        cases e
        obtain ⟨b, xs2, e, hs2, r2⟩ := h2.sql
        cases e
        refine ⟨xs, xs2, hs, hs2, ?_⟩
        unfold zipD
        rw [List.length_map, List.length_zip, r.length, r2.length]
        omega
  yields := fun i H x H' hi _ y => by
    obtain ⟨T, z, z2, e, nT, eH, y, y2⟩ := y
    subst e eH
    refine ⟨same_upd nT, fun F r => ?_⟩
    cases r with
    | cons h r2 =>
      cases r2 with
      | cons h2 _ =>
        obtain ⟨b, xs, e, hs, r⟩ := h.sql
        cases e
        obtain ⟨b, xs2, e, hs2, r2⟩ := h2.sql
        cases e
        obtain ⟨d, h1, h1'⟩ := r.get (y xs hs)
        obtain ⟨d2, h2, h2'⟩ := r2.get (y2 xs2 hs2)
        refine ⟨.tuple [d, d2], ?_, .tup (.inl (.inl upd_same)) (.cons (h1'.same (same_upd nT)) (.cons (h2'.same (same_upd nT)) .nil))⟩
        unfold zipD
        rw [List.getElem?_map, List.getElem?_zip_eq_some (z := (d, d2)) |>.mpr ⟨h1, h2⟩]
        rfl
theorem si_enum (h : SA K W Δ tA true fr gA) : SI K W Δ (iEnum K tA) false fr (gEnum gA) := fun f ρ σ H Rk R q => by
  refine h f ρ σ H _ R ?_
  unfold gEnum at q
  cases e1 : gA ρ with
  | bad => rw [e1] at q; exact q
  | ex z => rw [e1] at q; exact q
  | ok ds =>
    rw [e1, bnd_ok] at q
    intro vs H1 s1 x1
    cases er : lst1 ds with
    | none => rw [er] at q; exact q.elim
    | some es =>
      rw [er] at q
      have e := lst1_inv er
      subst e
      have x0 := x1
      cases x1 with
      | cons x1 xr =>
        cases xr
        obtain ⟨c, xs, rfl, hs, r⟩ := x1.sql
        exact ⟨c, xs, rfl, hs, q _ H1 none [.ref c] [.list es] s1 (fun _ => rfl) (fun _ e => nomatch e) x0 sc_enum⟩
theorem si_rev (h : SA K W Δ tA true fr gA) : SI K W Δ (iRev K tA) false fr (gRev gA) := fun f ρ σ H Rk R q => by
  refine h f ρ σ H _ R ?_
  unfold gRev at q
  cases e1 : gA ρ with
  | bad => rw [e1] at q; exact q
  | ex z => rw [e1] at q; exact q
  | ok ds =>
    rw [e1, bnd_ok] at q
    intro vs H1 s1 x1
    cases er : lst1 ds with
    | none => rw [er] at q; exact q.elim
    | some es =>
      rw [er] at q
      have e := lst1_inv er
      subst e
      have x0 := x1
      cases x1 with
      | cons x1 xr =>
        cases xr
        obtain ⟨c, xs, rfl, hs, r⟩ := x1.sql
        exact ⟨c, xs, rfl, hs, q _ H1 none [.ref c] [.list es] s1 (fun _ => rfl) (fun _ e => nomatch e) x0 (sc_rev r.length)⟩
theorem si_zip (h : SA K W Δ tA true fr gA) : SI K W Δ (iZip K tA) false fr (gZip gA) := fun f ρ σ H Rk R q => by
  refine h f ρ σ H _ R ?_
  unfold gZip at q
  cases e1 : gA ρ with
  | bad => rw [e1] at q; exact q
  | ex z => rw [e1] at q; exact q
  | ok ds =>
    rw [e1, bnd_ok] at q
    intro vs H1 s1 x1
    cases er : lst2 ds with
    | none => rw [er] at q; exact q.elim
    | some p =>
      rw [er] at q
      have e := lst2_inv er
      subst e
      have x0 := x1
      cases x1 with
      | cons x1 xr =>
        cases xr with
        | cons x2 xr =>
          cases xr
          obtain ⟨c, xs, rfl, hs, r⟩ := x1.sql
          obtain ⟨c2, xs2, rfl, hs2, r2⟩ := x2.sql
          exact ⟨c, c2, xs, xs2, rfl, hs, hs2, q _ H1 none [.ref c, .ref c2] [.list p.1, .list p.2] s1 (fun _ => rfl) (fun _ e => nomatch e) x0 sc_zip⟩
theorem i_enum {p tpos : Pos} {elts : List Expr} {kk : Nat} (hm : X.mg "enumerate" = none) (h : AD X K W Δ [a] tA true fr gA) (hg : Gl X "enumerate" := by rfl) (hs : starEach [a] X.env = [(false, eval a X.env)] := by rfl) : ID X K W Δ (.Tuple elts kk tpos) (.Call (.Name "enumerate" p) [a] [] pos) (iEnum K tA) false fr (gEnum gA) :=
  ⟨by have q := pi_enum (X := X) (tpos := tpos) (elts := elts) (kk := kk) (p := p) (pos := pos) hg hm h.pa hs; rw [h.hK] at q; exact q, h.hK, si_enum h.sa⟩
theorem i_rev {tg : Expr} {p : Pos} (hm : X.mg "reversed" = none) (h : AD X K W Δ [a] tA true fr gA) (hg : Gl X "reversed" := by rfl) (hs : starEach [a] X.env = [(false, eval a X.env)] := by rfl) : ID X K W Δ tg (.Call (.Name "reversed" p) [a] [] pos) (iRev K tA) false fr (gRev gA) :=
  ⟨by have q := pi_reversed (X := X) (tg := tg) (p := p) (pos := pos) hg hm h.pa hs; rw [h.hK] at q; exact q, h.hK, si_rev h.sa⟩
theorem i_zip {p tpos : Pos} {elts : List Expr} {kk : Nat} (hm : X.mg "zip" = none) (h : AD X K W Δ [a, b] tA true fr gA) (hg : Gl X "zip" := by rfl) (hs : starEach [a, b] X.env = (false, eval a X.env) :: starEach [b] X.env := by rfl) (hpl : (backTo pos (starEach [b] X.env)).any (·.1) = false := by rfl) : ID X K W Δ (.Tuple elts kk tpos) (.Call (.Name "zip" p) [a, b] [] pos) (iZip K tA) false fr (gZip gA) :=
  ⟨by have q := pi_zip (X := X) (tpos := tpos) (elts := elts) (kk := kk) (p := p) (pos := pos) hg hm h.pa hs hpl; rw [h.hK] at q; exact q, h.hK, si_zip h.sa⟩

/-! ### list(range), list(reversed) -/
def gLsI (gI : List Dt → O (List Dt)) : Gd := fun ρ => bnd (gI ρ) fun ds => if ds.length ≤ 100000 then .ok (.list ds) else .bad
theorem rpA_mapInt {F : Addr → Prop} {H : Hp} {α : Type} (f : α → Int) : ∀ l : List α, RpA K F H (l.map fun i => V.int (f i)) (l.map fun i => PyData.int (f i))
  | [] => .nil
  | x :: l => .cons (.int _) (rpA_mapInt f l)
theorem se_lrng1 (ha : SE K W Δ te (.v av fr) g) : SE K W Δ (tLstRg (tRg1 te)) (.new .l true) (gLsI (gRng1 (gCons g gNil))) := fun f ρ σ H Q R q => by
  refine ha f ρ σ H _ R ?_
  unfold gLsI gRng1 gCons gNil at q
  cases e1 : g ρ with
  | bad => rw [e1] at q; exact q
  | ex z => rw [e1] at q; exact q
  | ok d =>
    rw [e1, bnd_ok, bnd_ok, bnd_ok] at q
    intro v H1 s1 x1
    cases er : rng1 [d] with
    | none => rw [er] at q; exact q.elim
    | some p =>
      rw [er] at q
      unfold rng1 at er
      split at er
      · split at er
        · rename_i hj
          obtain ⟨e, e'⟩ := List.cons.inj ‹[d] = _›
          rename_i j h2
          cases er
          subst e
          rw [rpInt x1]
          simp only [bnd_ok] at q
          by_cases l : (rangeD 0 j).length ≤ 100000
          · rw [if_pos l] at q
            rw [rangeD_len] at l
            refine ⟨j, rfl, ⟨by omega, by omega, hj.1, hj.2, by omega⟩, fun p np => q p _ (s1.free np) (s1.trans (same_upd np)) ⟨_, _, rfl, upd_same, ?_⟩⟩
            exact rpA_mapInt _ _
          · rw [if_neg l] at q
            exact q.elim
        · cases er
      · cases er
theorem se_lrng2 (ha : SE K W Δ ta (.v av fr) ga) {av' fr' : Bool} (hb : SE K W Δ tb (.v av' fr') g) : SE K W Δ (tLstRg (tRg2 ta tb)) (.new .l true) (gLsI (gRng2 (gCons ga (gCons g gNil)))) := fun f ρ σ H Q R q => by
  refine ha f ρ σ H _ R ?_
  unfold gLsI gRng2 gCons gNil at q
  cases e1 : ga ρ with
  | bad => rw [e1] at q; exact q
  | ex z => rw [e1] at q; exact q
  | ok d =>
    rw [e1, bnd_ok] at q
    intro v H1 s1 x1
    refine hb f ρ σ H1 _ (R.mono s1) ?_
    cases e2 : g ρ with
    | bad => rw [e2] at q; exact q
    | ex z => rw [e2] at q; exact fun H' s => q H' (s1.trans s)
    | ok d2 =>
      rw [e2, bnd_ok, bnd_ok, bnd_ok, bnd_ok] at q
      intro v2 H2 s2 x2
      cases er : rng2 [d, d2] with
      | none => rw [er] at q; exact q.elim
      | some p =>
        rw [er] at q
        unfold rng2 at er
        split at er
        · split at er
          · rename_i hj
            obtain ⟨e, e'⟩ := List.cons.inj ‹[d, d2] = _›
            obtain ⟨e', _⟩ := List.cons.inj e'
            cases er
            subst e e'
            rw [rpInt x1, rpInt x2]
            simp only [bnd_ok] at q
            rename_i i j _ _
            by_cases l : (rangeD i j).length ≤ 100000
            · rw [if_pos l] at q
              rw [rangeD_len] at l
              refine ⟨i, j, rfl, rfl, ⟨hj.1, hj.2.1, hj.2.2.1, hj.2.2.2, by omega⟩, fun p np => q p _ ((s1.trans s2).free np) ((s1.trans s2).trans (same_upd np)) ⟨_, _, rfl, upd_same, ?_⟩⟩
              exact rpA_mapInt _ _
            · rw [if_neg l] at q
              exact q.elim
          · cases er
        · cases er
theorem se_lrev (ha : SE K W Δ te (.v true fr) g) : SE K W Δ (tLstRev K te) (.new .l fr) (gLsI (gRev (gCons g gNil))) := fun f ρ σ H Q R q => by
  refine ha f ρ σ H _ R ?_
  unfold gLsI gRev gCons gNil at q
  cases e1 : g ρ with
  | bad => rw [e1] at q; exact q
  | ex z => rw [e1] at q; exact q
  | ok d =>
    rw [e1, bnd_ok, bnd_ok, bnd_ok] at q
    intro v H1 s1 x1
    cases er : lst1 [d] with
    | none => rw [er] at q; exact q.elim
    | some es =>
      rw [er] at q
      have e := List.cons.inj (lst1_inv er)
      cases e.1
      simp only [bnd_ok] at q
      by_cases l : es.reverse.length ≤ 100000
      · rw [if_pos l] at q
        obtain ⟨c, xs, rfl, hs, r⟩ := x1.sql
        exact ⟨c, xs, rfl, hs, fun p np => q p _ (s1.free np) (s1.trans (same_upd np)) ⟨_, _, rfl, upd_same, r.reverse.mono (same_upd np) fun a y z => ⟨y, fun e => z (e ▸ np)⟩⟩⟩
      · rw [if_neg l] at q
        exact q.elim
theorem se_lrevO (ha : SE K W Δ te (.o fr) g) : SE K W Δ (tLstRev K te) (.new .l fr) (gLsI (gRev (gCons g gNil))) := fun f ρ σ H Q R q => by
  refine ha f ρ σ H _ R ?_
  unfold gLsI gRev gCons gNil at q
  cases e1 : g ρ with
  | bad => rw [e1] at q; exact q
  | ex z => rw [e1] at q; exact q
  | ok d =>
    rw [e1, bnd_ok, bnd_ok, bnd_ok] at q
    intro p H1 vs ds ed s1 hp gp x1
    subst ed
    simp only [bnd_ok, lst1] at q
    by_cases l : ds.reverse.length ≤ 100000
    · rw [if_pos l] at q
      exact ⟨p, vs, rfl, .inl (.inl hp), fun p np => q p _ (s1.free np) (s1.trans (same_upd np)) ⟨_, _, rfl, upd_same, x1.reverse.mono (same_upd np) fun a y z => ⟨y, fun e => z (e ▸ np)⟩⟩⟩
    · rw [if_neg l] at q
      exact q.elim
theorem x_lrng1 {p p2 pos2 : Pos} (hm : X.mg "list" = none) (hm2 : X.mg "range" = none) (h : PD X K W Δ a ta (.v av fr) ga) (hc : X.calm = true := by rfl) (hg : Gl X "list" := by rfl) (hg2 : Gl X "range" := by rfl)
    (na : starEach [a] X.env = (false, eval a X.env) :: starEach [] X.env := by rfl) (na2 : starEach [.Call (.Name "range" p2) [a] [] pos2] X.env = (false, eval (.Call (.Name "range" p2) [a] [] pos2) X.env) :: starEach [] X.env := by rfl) :
    PD X K W Δ (.Call (.Name "list" p) [.Call (.Name "range" p2) [a] [] pos2] [] pos) (tLstRg (tRg1 ta)) (.new .l true) (gLsI (gRng1 (gCons ga gNil))) := ⟨pe_listRg hc hg hm (prg_1 hg2 hm2 h.pe na) na2, h.hK, se_lrng1 h.se⟩
theorem x_lrng2 {av' fr' : Bool} {p p2 pos2 : Pos} (hm : X.mg "list" = none) (hm2 : X.mg "range" = none) (h : PD X K W Δ a ta (.v av fr) ga) (h' : PD X K W Δ b tb (.v av' fr') g) (hc : X.calm = true := by rfl) (hg : Gl X "list" := by rfl) (hg2 : Gl X "range" := by rfl)
    (na : starEach [a, b] X.env = (false, eval a X.env) :: starEach [b] X.env := by rfl) (nb : starEach [b] X.env = (false, eval b X.env) :: starEach [] X.env := by rfl) (hp : (backTo pos2 (starEach [b] X.env)).any (·.1) = false := by rfl)
    (na2 : starEach [.Call (.Name "range" p2) [a, b] [] pos2] X.env = (false, eval (.Call (.Name "range" p2) [a, b] [] pos2) X.env) :: starEach [] X.env := by rfl) :
    PD X K W Δ (.Call (.Name "list" p) [.Call (.Name "range" p2) [a, b] [] pos2] [] pos) (tLstRg (tRg2 ta tb)) (.new .l true) (gLsI (gRng2 (gCons ga (gCons g gNil)))) := ⟨pe_listRg hc hg hm (prg_2 hg2 hm2 h.pe h'.pe na nb hp) na2, h.hK, se_lrng2 h.se h'.se⟩
theorem x_lrev {p p2 pos2 : Pos} (hm : X.mg "list" = none) (hm2 : X.mg "reversed" = none) (h : PD X K W Δ a ta (.v true fr) ga) (hc : X.calm = true := by rfl) (hg : Gl X "list" := by rfl) (hg2 : Gl X "reversed" := by rfl)
    (na : starEach [a] X.env = (false, eval a X.env) :: starEach [] X.env := by rfl) (na2 : starEach [.Call (.Name "reversed" p2) [a] [] pos2] X.env = (false, eval (.Call (.Name "reversed" p2) [a] [] pos2) X.env) :: starEach [] X.env := by rfl) :
    PD X K W Δ (.Call (.Name "list" p) [.Call (.Name "reversed" p2) [a] [] pos2] [] pos) (tLstRev K ta) (.new .l fr) (gLsI (gRev (gCons ga gNil))) := ⟨by have q := pe_lstRev (X := X) (p := p) (p2 := p2) (pos := pos) (pos2 := pos2) hc hg hm hg2 hm2 h.pe na na2; rw [h.hK] at q; exact q, h.hK, se_lrev h.se⟩
theorem x_lrevO {p p2 pos2 : Pos} (hm : X.mg "list" = none) (hm2 : X.mg "reversed" = none) (h : PD X K W Δ a ta (.o fr) ga) (hc : X.calm = true := by rfl) (hg : Gl X "list" := by rfl) (hg2 : Gl X "reversed" := by rfl)
    (na : starEach [a] X.env = (false, eval a X.env) :: starEach [] X.env := by rfl) (na2 : starEach [.Call (.Name "reversed" p2) [a] [] pos2] X.env = (false, eval (.Call (.Name "reversed" p2) [a] [] pos2) X.env) :: starEach [] X.env := by rfl) :
    PD X K W Δ (.Call (.Name "list" p) [.Call (.Name "reversed" p2) [a] [] pos2] [] pos) (tLstRev K ta) (.new .l fr) (gLsI (gRev (gCons ga gNil))) := ⟨by have q := pe_lstRev (X := X) (p := p) (p2 := p2) (pos := pos) (pos2 := pos2) hc hg hm hg2 hm2 h.pe na na2; rw [h.hK] at q; exact q, h.hK, se_lrevO h.se⟩
end
/-! ### range(i, j, -1) -/
def rng3 : List Dt → Option (Int × Int)
  | [.int i, .int j, .int c] => if c = -1 ∧ -(2 ^ 62) ≤ i ∧ i < 2 ^ 62 ∧ -(2 ^ 62) ≤ j ∧ j < 2 ^ 62 then some (i, j) else none
  | _ => none
theorem rng3_inv {ds : List Dt} {p : Int × Int} (h : rng3 ds = some p) : ds = [.int p.1, .int p.2, .int (-1)] ∧ -(2 ^ 62) ≤ p.1 ∧ p.1 < 2 ^ 62 ∧ -(2 ^ 62) ≤ p.2 ∧ p.2 < 2 ^ 62 := by
  unfold rng3 at h
  split at h
  · split at h
    · rename_i c
      cases h
      obtain ⟨e, c⟩ := c
      subst e
      exact ⟨rfl, c⟩
    · cases h
  · cases h
def downD (i j : Int) : List Dt := (List.range (i - j).toNat).map fun (k : Nat) => .int (i - (k : Int))
def gRng3 (g : List Dt → O (List Dt)) : List Dt → O (List Dt) := fun ρ => bnd (g ρ) fun ds => match rng3 ds with
  | some p => .ok (downD p.1 p.2)
  | none => .bad
section
variable {K : PySem.W.Frag} {W : Wt} {Δ : List Kd}
theorem downD_len (i j : Int) : (downD i j).length = (i - j).toNat := by unfold downD; simp
theorem sc_down {i j : Int} : Sc K (Itc i (-1) (i - j).toNat) none [] [] (downD i j) where
  goes := fun k H hi' _ => by rw [downD_len] at hi'; exact hi'
  stops := fun H _ => by rw [downD_len]; exact Nat.le_refl _
  yields := fun k H x H' hi' _ y => by
    obtain ⟨e, y⟩ := y
    subst e y
    refine ⟨Same.refl _, fun F r => ⟨_, ?_, .int _⟩⟩
    rw [downD_len] at hi'
    unfold downD
    rw [List.getElem?_map, List.getElem?_range hi']
    have e : i - (k : Int) = i + (k : Nat) * (-1) := by omega
    rw [← e]
    rfl
theorem si_rng3 {tA : TA} {gA : List Dt → O (List Dt)} {av fr : Bool} (h : SA K W Δ tA av fr gA) : SI K W Δ (iRng3 tA) false true (gRng3 gA) := fun f ρ σ H Rk R q => by
  refine h f ρ σ H _ R ?_
  unfold gRng3 at q
  cases e1 : gA ρ with
  | bad => rw [e1] at q; exact q
  | ex z => rw [e1] at q; exact q
  | ok ds =>
    rw [e1, bnd_ok] at q
    intro vs H1 s1 x1
    cases er : rng3 ds with
    | none => rw [er] at q; exact q.elim
    | some p =>
      rw [er] at q
      obtain ⟨e, b1, b2, b3, b4⟩ := rng3_inv er
      subst e
      cases x1 with
      | cons x1 xr =>
        cases xr with
        | cons x2 xr =>
          cases xr with
          | cons x3 xr =>
            cases xr
            rw [rpInt x1, rpInt x2, rpInt x3]
            exact ⟨p.1, p.2, -1, (p.1 - p.2).toNat, rfl, RgC.neg b1 b2 b3 b4, q _ H1 none [] [] s1 (fun _ => rfl) (fun _ e => nomatch e) .nil sc_down⟩
theorem i_rng3 {X : Cx} {tg a b c : Expr} {tA : TA} {gA : List Dt → O (List Dt)} {av fr : Bool} {pos p : Pos} (hm : X.mg "range" = none) (h : AD X K W Δ [a, b, c] tA av fr gA) (hg : Gl X "range" := by rfl)
    (hs : starEach [a, b, c] X.env = (false, eval a X.env) :: starEach [b, c] X.env := by rfl) (hpl : (backTo pos (starEach [b, c] X.env)).any (·.1) = false := by rfl) : ID X K W Δ tg (.Call (.Name "range" p) [a, b, c] [] pos) (iRng3 tA) false true (gRng3 gA) := ⟨pi_range3 hg hm h.pa hs hpl, h.hK, si_rng3 h.sa⟩
end
/-! ### << -/
def hShl := hI cPow fun i j => i * 2 ^ j.toNat
theorem x_shl {X : Cx} {K : PySem.W.Frag} {W : Wt} {Δ : List Kd} {a b : Expr} {ta tb : TE} {ga gb : Gd} {av fr av' fr' : Bool} {pos : Pos} (ha : PD X K W Δ a ta (.v av fr) ga) (hb : PD X K W Δ b tb (.v av' fr') gb) : PD X K W Δ (.BinOp a .LShift b pos) (tOp (rI CPow fun i j => .int (i * 2 ^ j.toNat)) ta tb) (.v true true) (gOp hShl ga gb) := ⟨pe_op op_shl ha.pe hb.pe, ha.hK, se_op scl_I (osc_I fun _ _ => cPow_ok) ha.se hb.se⟩
/-! ### plain lemmas -/
theorem gChain_def (h h' : Dt → Dt → O Dt) (ga gb gc : Gd) (ρ : List Dt) : gChain h h' ga gb gc ρ = bnd (ga ρ) fun x => bnd (gb ρ) fun y => bnd (h x y) fun z => bnd (asB z) fun c => if c then bnd (gc ρ) fun w => h' y w else .ok (.bool false) := rfl
theorem hIsa_int (i : Int) : hIsa .int (.int i) = .ok (.bool true) := rfl
theorem hIsa_intb (i : Int) : hIsa .bool (.int i) = .ok (.bool false) := rfl
theorem hIsa_list (x : List Dt) : hIsa .list (.list x) = .ok (.bool true) := rfl
theorem hIsa_tuple (x : List Dt) : hIsa .tuple (.tuple x) = .ok (.bool true) := rfl
theorem gDrop_def (g : Gd) (ρ : List Dt) : gDrop g ρ = bnd (g ρ) fun _ => .ok (.nx ρ) := rfl
theorem fnN_nx {m : Nat} {g : Gs} {ds ρ : List Dt} (h : g (ds ++ List.replicate (m - ds.length) .none) = .ok (.nx ρ)) : fnN m g ds = .ok .none := by unfold fnN; rw [h]
theorem lsI_ok {gI : List Dt → O (List Dt)} {ρ ds : List Dt} (h : gI ρ = .ok ds) (hl : ds.length ≤ 100000) : gLsI gI ρ = .ok (.list ds) := by unfold gLsI; rw [h, bnd_ok, if_pos hl]
theorem rev_ok {gA : List Dt → O (List Dt)} {ρ es : List Dt} (h : gA ρ = .ok [.list es]) : gRev gA ρ = .ok es.reverse := by unfold gRev; rw [h]; rfl
theorem enum_ok {gA : List Dt → O (List Dt)} {ρ es : List Dt} (h : gA ρ = .ok [.list es]) : gEnum gA ρ = .ok (enumD es) := by unfold gEnum; rw [h]; rfl
theorem zip_ok {gA : List Dt → O (List Dt)} {ρ es fs : List Dt} (h : gA ρ = .ok [.list es, .list fs]) : gZip gA ρ = .ok (zipD es fs) := by unfold gZip; rw [h]; rfl
theorem rng3_ok {g : List Dt → O (List Dt)} {ρ : List Dt} {i j : Int} (h : g ρ = .ok [.int i, .int j, .int (-1)]) (h1 : -4611686018427387904 ≤ j) (h2 : j < 4611686018427387904) (h3 : -4611686018427387904 ≤ i) (h4 : i < 4611686018427387904) : gRng3 g ρ = .ok (downD i j) := by
  unfold gRng3
  rw [h, bnd_ok]
  unfold rng3
  simp only
  rw [if_pos ⟨trivial, by omega, by omega, by omega, by omega⟩]
theorem hAll_b (xs : List Bool) : hAll [.list (xs.map .bool)] = .ok (.bool (xs.all id)) := by
  unfold hAll
  simp only [allB_map]
theorem setI_ok {i : Nat} {ge gi : Gd} {ρ ds : List Dt} {d : Dt} {j : Int} (h1 : ge ρ = .ok d) (h2 : ρ[i]? = some (.list ds)) (h3 : gi ρ = .ok (.int j)) (j0 : 0 ≤ j) (j1 : j < ds.length) : gSetI i ge gi ρ = .ok (.nx (ρ.set i (.list (ds.set j.toNat d)))) := by
  unfold gSetI
  have e : ixN ds.length j = some j.toNat := by
    unfold ixN
    repeat (first | rw [if_pos (by omega)] | rw [if_neg (by omega)])
  rw [h1, bnd_ok, h2]
  simp only
  rw [h3, bnd_ok]
  simp only [e]
theorem enumD_map {α : Type} (f : α → Dt) (xs : List α) : enumD (xs.map f) = (xs.zipIdx.map fun p => .tuple [.int (p.2 : Nat), f p.1]) := by
  unfold enumD
  rw [List.zipIdx_map, List.map_map]
  rfl
theorem zipD_map {α β : Type} (f : α → Dt) (g : β → Dt) (xs : List α) (ys : List β) : zipD (xs.map f) (ys.map g) = ((xs.zip ys).map fun p => .tuple [f p.1, g p.2]) := by
  unfold zipD
  rw [List.zip_map, List.map_map]
  rfl
end Sim
end T_SimI

section T_SimJ
set_option Elab.async false
set_option linter.all false
set_option maxRecDepth 100000
/-! SimJ: dicts of one's own (keys ints or strs), xs[::-1], is of bools. -/
namespace Sim
open PySem PySem.Spec L2
open PyProof.Rows hiding St

/-! ### dicts as data -/
def isK : Key → Dt → Bool
  | .inl i, .int j => decide (j = i)
  | .inr x, .str y => decide (y = x)
  | _, _ => false
def keyOf : Dt → Option Key
  | .int i => some (.inl i)
  | .str x => some (.inr x)
  | _ => none
def dGet (es : List (Dt × Dt)) (k : Key) : Option Dt := (es.find? fun e => isK k e.1).map (·.2)
def dPut (es : List (Dt × Dt)) (k : Key) (v : Dt) : List (Dt × Dt) := if (es.any fun e => isK k e.1) = true then es.map (fun e => if isK k e.1 = true then (e.1, v) else e) else es ++ [(keyD k, v)]
def dDrop (es : List (Dt × Dt)) (k : Key) : List (Dt × Dt) := es.filter fun e => !isK k e.1
section
variable {K : PySem.W.Frag} {F F' : Addr → Prop} {H H' : Hp}
theorem isK_keyD (k k' : Key) : isK k (keyD k') = decide (k' = k) := by
  cases k <;> cases k' <;> simp [isK, keyD]
theorem kV_keyOf {v : V} {d : Dt} {k : Key} (x : Rp K F H v d) (e : keyOf d = some k) : v = kV k := by
  cases x <;> cases e <;> rfl
theorem KvA.length : ∀ {kvs : List (Key × V)} {es : List (Dt × Dt)}, KvA K F H kvs es → kvs.length = es.length
  | _, _, .nil => rfl
  | _, _, .cons _ r => by rw [List.length_cons, List.length_cons, r.length]
theorem KvA.get (k : Key) : ∀ {kvs : List (Key × V)} {es : List (Dt × Dt)}, KvA K F H kvs es → (valV kvs k = none ∧ dGet es k = none) ∨ ∃ v d, valV kvs k = some v ∧ dGet es k = some d ∧ Rp K F H v d
  | _, _, .nil => .inl ⟨rfl, rfl⟩
  | _, _, .cons (k := k') (v := v) (d := d) (kvs := kvs) (es := es) h r => by
    by_cases c : k' = k
    · refine .inr ⟨v, d, valV_pos c, ?_, h⟩
      unfold dGet
      rw [List.find?_cons_of_pos (by rw [isK_keyD]; simpa using c)]
      rfl
    · rw [valV_neg c]
      have e : dGet ((keyD k', d) :: es) k = dGet es k := by
        unfold dGet
        rw [List.find?_cons_of_neg (by rw [isK_keyD]; simpa using c)]
      rw [e]
      exact r.get k
theorem KvA.any (k : Key) : ∀ {kvs : List (Key × V)} {es : List (Dt × Dt)}, KvA K F H kvs es → (kvs.any fun kv => decide (kv.1 = k)) = es.any fun e => isK k e.1
  | _, _, .nil => rfl
  | _, _, .cons h r => by rw [List.any_cons, List.any_cons, r.any k, isK_keyD]
theorem KvA.snoc {k : Key} {v : V} {d : Dt} (x : Rp K F H v d) : ∀ {kvs : List (Key × V)} {es : List (Dt × Dt)}, KvA K F H kvs es → KvA K F H (kvs ++ [(k, v)]) (es ++ [(keyD k, d)])
  | _, _, .nil => .cons x .nil
  | _, _, .cons h r => .cons h (r.snoc x)
theorem KvA.over {k : Key} {v : V} {d : Dt} (x : Rp K F H v d) : ∀ {kvs : List (Key × V)} {es : List (Dt × Dt)}, KvA K F H kvs es → KvA K F H (kvs.map fun kv => if kv.1 = k then (kv.1, v) else kv) (es.map fun e => if isK k e.1 = true then (e.1, d) else e)
  | _, _, .nil => .nil
  | _, _, .cons (k := k') h r => by
    rw [List.map_cons, List.map_cons, isK_keyD]
    by_cases c : k' = k
    · rw [if_pos c, if_pos (by simpa using c)]
      exact .cons x (r.over x)
    · rw [if_neg c, if_neg (by simpa using c)]
      exact .cons h (r.over x)
theorem KvA.put {k : Key} {v : V} {d : Dt} (x : Rp K F H v d) {kvs : List (Key × V)} {es : List (Dt × Dt)} (h : KvA K F H kvs es) : KvA K F H (putK kvs k v) (dPut es k d) := by
  unfold putK dPut
  rw [h.any k]
  split
  · exact h.over x
  · exact h.snoc x
theorem KvA.drop (k : Key) : ∀ {kvs : List (Key × V)} {es : List (Dt × Dt)}, KvA K F H kvs es → KvA K F H (dropK kvs k) (dDrop es k)
  | _, _, .nil => .nil
  | _, _, .cons (k := k') h r => by
    unfold dropK dDrop
    rw [List.filter_cons, List.filter_cons, isK_keyD]
    by_cases c : k' = k
    · rw [if_neg (by simpa using c), if_neg (by simpa using c)]
      exact r.drop k
    · rw [if_pos (by simpa using c), if_pos (by simpa using c)]
      exact .cons h (r.drop k)
end

/-! ### closures -/
def gDNew : Gd := fun _ => .ok (.dict [])
def dAt (ρ : List Dt) (i : Nat) : Option (List (Dt × Dt)) := match ρ[i]? with
  | some (.dict es) => some es
  | _ => none
def gDGet (i : Nat) (gk : Gd) : Gd := fun ρ => match dAt ρ i with
  | some es => bnd (gk ρ) fun kd => (match keyOf kd with
    | some k => (match dGet es k with
      | some d => .ok d
      | none => .bad)
    | none => .bad)
  | none => .bad
def gDIn (neg : Bool) (i : Nat) (gk : Gd) : Gd := fun ρ => bnd (gk ρ) fun kd => match dAt ρ i with
  | some es => (match keyOf kd with
    | some k => .ok (.bool (if neg then !(dGet es k).isSome else (dGet es k).isSome))
    | none => .bad)
  | none => .bad
def gDPut (i : Nat) (gv gk : Gd) : Gs := fun ρ => bnd (gv ρ) fun v => match dAt ρ i with
  | some es => bnd (gk ρ) fun kd => (match keyOf kd with
    | some k => if es.length < 100000 then .ok (.nx (ρ.set i (.dict (dPut es k v)))) else .bad
    | none => .bad)
  | none => .bad
theorem dAt_inv {ρ : List Dt} {i : Nat} {es : List (Dt × Dt)} (h : dAt ρ i = some es) : ρ[i]? = some (.dict es) := by
  unfold dAt at h
  split at h
  · cases h; assumption
  · cases h

section
variable {K : PySem.W.Frag} {W : Wt} {Δ Δb Δc : List Kd} {te ti : TE} {g ge gk : Gd} {fr fr' av L : Bool} {i : Nat}
theorem dk_own {f : Fm} {ρ : List Dt} {σ : L2.St} {H : Hp} {es : List (Dt × Dt)} (r : R K f Δ ρ σ H) (hk : Δ[i]? = some (.own .dk fr)) (h : dAt ρ i = some es) :
    ∃ p kvs, σ[i]? = some (some (V.ref p)) ∧ f.H0 p = none ∧ H p = some (.dK kvs) ∧ KvA K (FM f Δ σ true fr) H kvs es := by
  obtain ⟨p, d, g1, g2, g3, kvs, es', ed, g4, g5⟩ := r.ow i .dk fr hk
  rw [dAt_inv h] at g2
  cases g2
  cases ed
  exact ⟨p, kvs, g1, g3, g4, g5⟩
theorem se_dnew : SE K W Δ tDNewK (.new .dk true) gDNew := fun f ρ σ H Q r q => fun p np => q p _ np (same_upd np) ⟨[], [], rfl, upd_same, .nil⟩
theorem se_dget (hk : Δ[i]? = some (.own .dk fr)) (h : SE K W Δ ti (.v av fr') gk) : SE K W Δ (tDGet (tVar i) ti) (.v true fr) (gDGet i gk) := fun f ρ σ H Q r q => by
  unfold gDGet at q
  cases ed : dAt ρ i with
  | none => rw [ed] at q; exact q.elim
  | some es =>
    rw [ed] at q
    obtain ⟨p, kvs, g1, g3, g4, g5⟩ := dk_own r hk ed
    refine ⟨_, g1, h f ρ σ H _ r ?_⟩
    simp only at q
    cases e2 : gk ρ with
    | bad => rw [e2] at q; exact q
    | ex z => rw [e2] at q; exact q
    | ok kd =>
      rw [e2, bnd_ok] at q
      intro kv H1 s1 xk
      cases ek : keyOf kd with
      | none => rw [ek] at q; exact q.elim
      | some k =>
        rw [ek] at q
        simp only at q
        rw [kV_keyOf xk ek]
        rcases g5.get k with ⟨_, e⟩ | ⟨v, d, e1, e, x⟩
        · rw [e] at q; exact q.elim
        · rw [e] at q
          refine ⟨p, v, rfl, ?_, q v H1 s1 (x.same s1)⟩
          rw [← e1]
          exact DGet.k (s1 _ _ g4)
theorem se_din (neg : Bool) (hk : Δ[i]? = some (.own .dk fr)) (h : SE K W Δ ti (.v av fr') gk) : SE K W Δ (if neg then tDNotIn ti (tVar i) else tDIn ti (tVar i)) (.v true true) (gDIn neg i gk) := fun f ρ σ H Q r q => by
  have key : ti σ H (fun y H1 => tVar i σ H1 fun x H2 => ∃ a o, x = .ref a ∧ DGet H2 a y o ∧ Q (.bl (if neg then !o.isSome else o.isSome)) H2) := by
    refine h f ρ σ H _ r ?_
    unfold gDIn at q
    cases e2 : gk ρ with
    | bad => rw [e2] at q; exact q
    | ex z => rw [e2] at q; exact q
    | ok kd =>
      rw [e2, bnd_ok] at q
      intro kv H1 s1 xk
      cases ed : dAt ρ i with
      | none => rw [ed] at q; exact q.elim
      | some es =>
        rw [ed] at q
        simp only at q
        obtain ⟨p, kvs, g1, g3, g4, g5⟩ := dk_own r hk ed
        cases ek : keyOf kd with
        | none => rw [ek] at q; exact q.elim
        | some k =>
          rw [ek] at q
          simp only at q
          rw [kV_keyOf xk ek]
          refine ⟨_, g1, p, valV kvs k, rfl, DGet.k (s1 _ _ g4), ?_⟩
          have eq : (valV kvs k).isSome = (dGet es k).isSome := by
            rcases g5.get k with ⟨e1, e⟩ | ⟨v, d, e1, e, x⟩ <;> rw [e1, e] <;> rfl
          rw [eq]
          exact q _ H1 s1 (.bl _)
  cases neg with
  | true => exact key
  | false => exact key
theorem s_dput (hk : Δ[i]? = some (.own .dk fr)) (h : SE K W Δ te (.v true fr') ge) (h2 : SE K W Δ ti (.v av av') gk) : SS K W L Δ (Δ.set i (.own .dk (fr && fr'))) Δb Δc (sDPut (tVar i) ti te) (gDPut i ge gk) := fun f ρ σ H E r q => h f ρ σ H _ r <| by
  unfold gDPut at q
  cases e : ge ρ with
  | bad => rw [e] at q; exact q
  | ex z => rw [e] at q; exact fun H' s => q σ H' (r.ext.trans s)
  | ok d =>
    rw [e, bnd_ok] at q
    cases ed : dAt ρ i with
    | none => rw [ed] at q; exact q.elim
    | some es =>
      rw [ed] at q
      simp only at q
      obtain ⟨p, kvs, g1, g3, g4, g5⟩ := dk_own r hk ed
      intro v H1 s x
      refine ⟨_, g1, h2 f ρ σ H1 _ (r.mono s) ?_⟩
      cases e2 : gk ρ with
      | bad => rw [e2] at q; exact q
      | ex z => rw [e2] at q; exact fun H' s2 => q σ H' ((r.ext.trans s).trans s2)
      | ok kd =>
        rw [e2, bnd_ok] at q
        intro kv H2 s2 xk
        cases ek : keyOf kd with
        | none => rw [ek] at q; exact q.elim
        | some k =>
          rw [ek] at q
          simp only at q
          by_cases hl : es.length < 100000
          · rw [if_pos hl] at q
            rw [kV_keyOf xk ek]
            have s12 := s.trans s2
            have hp := s12 _ _ g4
            refine ⟨p, _, rfl, DPut.k hp (by rw [g5.length]; exact Nat.lt_of_lt_of_le hl (by decide)), q σ _ ?_⟩
            refine (r.mono s12).updOwn hk g1 (c' := .dk) (show Mutb (.dK _) from trivial) ⟨_, _, rfl, upd_same, ?_⟩
            have nf : ∀ {fr : Bool} (a : Addr), FM f Δ σ true fr a → a ≠ p := fun a fa z => (fa.1 rfl).1 (z ▸ ⟨i, .dk, _, hk, g1⟩)
            refine KvA.put ((Rp.updM hp trivial (fun a fa => nf a fa) (x.same s2)).weak fun a y => y.weak id fun h => (Bool.and_eq_true_iff.mp h).2) ?_
            exact g5.map fun v d z => (Rp.updM hp trivial (fun a fa => nf a fa) (z.same s12)).weak fun a y => y.weak id fun h => (Bool.and_eq_true_iff.mp h).1
          · rw [if_neg hl] at q
            exact q.elim
def gDPop (i : Nat) (gk : Gd) (hh : Dt → List Dt → O (List Dt)) : Gs := fun ρ => match dAt ρ i with
  | some es => bnd (gk ρ) fun kd => (match keyOf kd with
    | some k => (match dGet es k with
      | some d => (match hh d (ρ.set i (.dict (dDrop es k))) with
        | .ok ρ' => .ok (.nx ρ')
        | _ => .bad)
      | none => .bad)
    | none => .bad)
  | none => .bad
theorem set_self {α : Type} {l : List α} {i : Nat} {a : α} (h : l[i]? = some a) : l.set i a = l := by
  apply List.ext_getElem?
  intro j
  by_cases c : i = j
  · subst c
    rw [List.getElem?_set_self (List.getElem?_eq_some_iff.mp h).1, h]
  · rw [List.getElem?_set_ne c]
theorem s_dpop {gg : TG} {sl : List Nat} {n : Nat} {hh : Dt → List Dt → O (List Dt)} {TK : Bool → List Kd → List Kd} (hn : Δ.length = n) (hk : Δ[i]? = some (.own .dk fr)) (h : SE K W Δ ti (.v av fr') gk) (hg : GJ K n gg sl hh TK) :
    SS K W L Δ (TK fr Δ) Δb Δc (tAsg (tDPop1 (tVar i) ti) gg) (gDPop i gk hh) := fun f ρ σ H E r q => by
  unfold gDPop at q
  cases ed : dAt ρ i with
  | none => rw [ed] at q; exact q.elim
  | some es =>
    rw [ed] at q
    simp only at q
    obtain ⟨p, kvs, g1, g3, g4, g5⟩ := dk_own r hk ed
    refine ⟨_, g1, p, rfl, .inl ⟨kvs, .inl g4⟩, h f ρ σ H _ r ?_⟩
    cases e2 : gk ρ with
    | bad => rw [e2] at q; exact q
    | ex z => rw [e2] at q; exact fun H' s2 => q σ H' (r.ext.trans s2)
    | ok kd =>
      rw [e2, bnd_ok] at q
      intro kv H1 s1 xk
      cases ek : keyOf kd with
      | none => rw [ek] at q; exact q.elim
      | some k =>
        rw [ek] at q
        simp only at q
        rcases g5.get k with ⟨_, e⟩ | ⟨v, d, e1, e, x⟩
        · rw [e] at q; exact q.elim
        · rw [e] at q
          simp only at q
          have hp := s1 _ _ g4
          refine ⟨kvs, k, v, hp, kV_keyOf xk ek, e1, ?_⟩
          have nf : ∀ {fr : Bool} (a : Addr), FM f Δ σ true fr a → a ≠ p := fun a fa z => (fa.1 rfl).1 (z ▸ ⟨i, .dk, _, hk, g1⟩)
          have r2 := (r.mono s1).updOwn hk g1 (c' := .dk) (fr' := fr) (o' := .dK (dropK kvs k)) (show Mutb (.dK _) from trivial) ⟨_, _, rfl, upd_same, (g5.map fun v d z => Rp.updM (o' := .dK (dropK kvs k)) hp trivial (fun a fa => nf a fa) (z.same s1)).drop k⟩
          rw [set_self hk] at r2
          refine hg f Δ _ σ _ v d fr _ hn r2 (Rp.updM hp trivial (fun a fa => nf a fa) (x.same s1)) ?_
          cases e3 : hh d (ρ.set i (.dict (dDrop es k))) with
          | bad => rw [e3] at q; exact q.elim
          | ex z => rw [e3] at q; exact q.elim
          | ok ρ' =>
            rw [e3] at q
            exact fun σ' t => q σ' _ t.r
end
/-! ### rules for a text -/
section
variable {X : Cx} {K : PySem.W.Frag} {W : Wt} {Δ Δb Δc : List Kd} {a b e tg : Expr} {te ti : TE} {g ge gk : Gd} {fr fr' av av' L : Bool} {pos p pos' : Pos} {x : Str} {m : Nat}
theorem x_dnew (hK : X.K = K := by rfl) : PD X K W Δ (.Dict [] [] pos) tDNewK (.new .dk true) gDNew := ⟨pe_dnewK, hK, se_dnew⟩
theorem x_dget (i : Nat) (hr : Room m X.A) (h : PD X K W Δ e te (.v av fr') g) (hk : Δ[i]? = some (.own .dk fr) := by rfl) (hv : Vis X.env.scope x := by first | exact Or.inl rfl | exact Or.inr (Or.inl rfl) | exact Or.inr (Or.inr rfl)) (hN : X.N[i]? = some x := by rfl) (hd : (x == ("__debug__" : Str)) = false := by decide) (hcd : (x == ("__classdict__" : Str)) = false := by decide) (hs : NoSl e := by exact fun _ _ => rfl) :
    PD X K W Δ (.Subscript (.Name x p) e pos) (tDGet (tVar i) te) (.v true fr) (gDGet i g) := ⟨pe_dget (by have := hr.un; omega) (pe_var hN hv hd hcd) h.pe hs, h.hK, se_dget hk h.se⟩
theorem x_din (i : Nat) (hr : Room m X.A) (h : PD X K W Δ e te (.v av fr') g) (hk : Δ[i]? = some (.own .dk fr) := by rfl) (hv : Vis X.env.scope x := by first | exact Or.inl rfl | exact Or.inr (Or.inl rfl) | exact Or.inr (Or.inr rfl)) (hN : X.N[i]? = some x := by rfl) (hd : (x == ("__debug__" : Str)) = false := by decide) (hcd : (x == ("__classdict__" : Str)) = false := by decide) (hm : behindInMarks .In (.Name x p) = false := by rfl) :
    PD X K W Δ (.Compare e [.In] [.Name x p] pos) (tDIn te (tVar i)) (.v true true) (gDIn false i g) := ⟨pe_cmp (pc_din (by have := hr.un; omega) h.pe (pe_var hN hv hd hcd)) hm, h.hK, se_din false hk h.se⟩
theorem x_dnin (i : Nat) (hr : Room m X.A) (h : PD X K W Δ e te (.v av fr') g) (hk : Δ[i]? = some (.own .dk fr) := by rfl) (hv : Vis X.env.scope x := by first | exact Or.inl rfl | exact Or.inr (Or.inl rfl) | exact Or.inr (Or.inr rfl)) (hN : X.N[i]? = some x := by rfl) (hd : (x == ("__debug__" : Str)) = false := by decide) (hcd : (x == ("__classdict__" : Str)) = false := by decide) (hm : behindInMarks .NotIn (.Name x p) = false := by rfl) :
    PD X K W Δ (.Compare e [.NotIn] [.Name x p] pos) (tDNotIn te (tVar i)) (.v true true) (gDIn true i g) := ⟨pe_cmp (pc_dnotin (by have := hr.un; omega) h.pe (pe_var hN hv hd hcd)) hm, h.hK, se_din true hk h.se⟩
theorem c_din (i : Nat) (hr : Room m X.A) (h : PD X K W Δ e te (.v av fr') g) (hk : Δ[i]? = some (.own .dk fr) := by rfl) (hv : Vis X.env.scope x := by first | exact Or.inl rfl | exact Or.inr (Or.inl rfl) | exact Or.inr (Or.inr rfl)) (hN : X.N[i]? = some x := by rfl) (hd : (x == ("__debug__" : Str)) = false := by decide) (hcd : (x == ("__classdict__" : Str)) = false := by decide) (hm : behindInMarks .In (.Name x p) = false := by rfl) :
    TD X K W Δ (.Compare e [.In] [.Name x p] pos) (tB (tDIn te (tVar i))) (gTest (gDIn false i g)) := ⟨pt_cmp (pc_din (by have := hr.un; omega) h.pe (pe_var hN hv hd hcd)) hm, h.hK, st_B (se_din false hk h.se)⟩
theorem c_dnin (i : Nat) (hr : Room m X.A) (h : PD X K W Δ e te (.v av fr') g) (hk : Δ[i]? = some (.own .dk fr) := by rfl) (hv : Vis X.env.scope x := by first | exact Or.inl rfl | exact Or.inr (Or.inl rfl) | exact Or.inr (Or.inr rfl)) (hN : X.N[i]? = some x := by rfl) (hd : (x == ("__debug__" : Str)) = false := by decide) (hcd : (x == ("__classdict__" : Str)) = false := by decide) (hm : behindInMarks .NotIn (.Name x p) = false := by rfl) :
    TD X K W Δ (.Compare e [.NotIn] [.Name x p] pos) (tB (tDNotIn te (tVar i))) (gTest (gDIn true i g)) := ⟨pt_cmp (pc_dnotin (by have := hr.un; omega) h.pe (pe_var hN hv hd hcd)) hm, h.hK, st_B (se_din true hk h.se)⟩
theorem z_dput (i : Nat) (hr : Room m X.A) (h : PD X K W Δ e te (.v true fr') ge) (h2 : PD X K W Δ b ti (.v av av') gk) (hk : Δ[i]? = some (.own .dk fr) := by rfl) (hv : Vis X.env.scope x := by first | exact Or.inl rfl | exact Or.inr (Or.inl rfl) | exact Or.inr (Or.inr rfl)) (hN : X.N[i]? = some x := by rfl) (hd : (x == ("__debug__" : Str)) = false := by decide) (hcd : (x == ("__classdict__" : Str)) = false := by decide) (hs : swapsWith e (some (.Subscript (.Name x p) b pos')) pos.line X.env = pure false := by rfl) :
    SD X K W L Δ (Δ.set i (.own .dk (fr && fr'))) Δb Δc (.Assign [.Subscript (.Name x p) b pos'] e pos) (sDPut (tVar i) ti te) (gDPut i ge gk) := ⟨ps_dput (by have := hr.un; omega) (pe_var hN hv hd hcd) h2.pe h.pe hs, h.hK, s_dput hk h.se h2.se⟩
theorem z_dpop (i : Nat) {n : Nat} {gg : TG} {sl : List Nat} {hh : Dt → List Dt → O (List Dt)} {TK : Bool → List Kd → List Kd} {apos cpos : Pos} (h : PD X K W Δ e ti (.v av fr') gk) (hg : GD X K n tg gg sl hh TK) (hk : Δ[i]? = some (.own .dk fr) := by rfl) (hv : Vis X.env.scope x := by first | exact Or.inl rfl | exact Or.inr (Or.inl rfl) | exact Or.inr (Or.inr rfl)) (hN : X.N[i]? = some x := by rfl) (hd : (x == ("__debug__" : Str)) = false := by decide) (hcd : (x == ("__classdict__" : Str)) = false := by decide) (hn : Δ.length = n := by rfl)
    (m1 : attributeBase (.Name x p) "pop" X.env (eval (.Name x p) X.env) = eval (.Name x p) X.env := by rfl)
    (m2 : ((backTo cpos (starEach [e] X.env)).all (fun x => !x.1) && (backToKw cpos (keywordEach [] X.env)).all (fun x => x.1.isSome) && decide (([e] : List Expr).length + ([] : List Keyword).length + (if ([] : List Keyword).isEmpty then 0 else 1) < 30)) = true := by rfl)
    (m3 : (apos.endLine == cpos.line) = true := by rfl) (m4 : backTo cpos (starEach [e] X.env) = [(false, eval e X.env)] := by rfl)
    (hs : swapsWithSole [tg] (.Call (.Attribute (.Name x p) "pop" apos) [e] [] cpos) pos.line X.env = pure false := by rfl) (hw : swappedStores [tg] (.Call (.Attribute (.Name x p) "pop" apos) [e] [] cpos) X.env = pure none := by rfl) (h1 : (assignEach [tg] X.env).map (·.2) = [assign tg X.env] := by rfl) :
    SD X K W L Δ (TK fr Δ) Δb Δc (.Assign [tg] (.Call (.Attribute (.Name x p) "pop" apos) [e] [] cpos) pos) (tAsg (tDPop1 (tVar i) ti) gg) (gDPop i gk hh) :=
  ⟨ps_asg (pe_dpop1 (pe_var hN hv hd hcd) h.pe ⟨m1, m2, m3, m4⟩) hg.pg hs hw h1, h.hK, s_dpop hn hk h.se hg.gj⟩

/-! ### xs[::-1] -/
def hRevL : Dt → O Dt := fun d => match d with
  | .list ds => .ok (.list ds.reverse)
  | _ => .bad
theorem se_revL (ha : SE K W Δ te (.v true fr) g) : SE K W Δ (tRevL K te) (.new .l fr) (gUn hRevL g) := fun f ρ σ H Q R q => by
  refine ha f ρ σ H _ R ?_
  unfold gUn at q
  cases e1 : g ρ with
  | bad => rw [e1] at q; exact q
  | ex z => rw [e1] at q; exact q
  | ok d =>
    rw [e1, bnd_ok] at q
    intro v H1 s1 x1
    cases d with
    | list es =>
      obtain ⟨c, xs, rfl, hs, r⟩ := x1.sql
      exact ⟨c, xs, rfl, hs, fun p np => q p _ (s1.free np) (s1.trans (same_upd np)) ⟨_, _, rfl, upd_same, r.reverse.mono (same_upd np) fun a y z => ⟨y, fun e => z (e ▸ np)⟩⟩⟩
    | _ => exact q.elim
theorem se_revLO (ha : SE K W Δ te (.o fr) g) : SE K W Δ (tRevL K te) (.new .l fr) (gUn hRevL g) := fun f ρ σ H Q R q => by
  refine ha f ρ σ H _ R ?_
  unfold gUn at q
  cases e1 : g ρ with
  | bad => rw [e1] at q; exact q
  | ex z => rw [e1] at q; exact q
  | ok d =>
    rw [e1, bnd_ok] at q
    intro p H1 vs ds ed s1 hp gp x1
    subst ed
    exact ⟨p, vs, rfl, .inl (.inl hp), fun p np => q p _ (s1.free np) (s1.trans (same_upd np)) ⟨_, _, rfl, upd_same, x1.reverse.mono (same_upd np) fun a y z => ⟨y, fun e => z (e ▸ np)⟩⟩⟩
theorem x_revL {k : Nat} {p1 p2 p3 : Pos} (h : PD X K W Δ e te (.v true fr) g) : PD X K W Δ (.Subscript e (.Slice none none (some (.UnaryOp .USub (.Constant (.int 1) k p1) p2)) p3) pos) (tRevL K te) (.new .l fr) (gUn hRevL g) := ⟨by have q := pe_revL (X := X) (k := k) (p1 := p1) (p2 := p2) (p3 := p3) (pos := pos) h.pe; rw [h.hK] at q; exact q, h.hK, se_revL h.se⟩
theorem x_revLO {k : Nat} {p1 p2 p3 : Pos} (h : PD X K W Δ e te (.o fr) g) : PD X K W Δ (.Subscript e (.Slice none none (some (.UnaryOp .USub (.Constant (.int 1) k p1) p2)) p3) pos) (tRevL K te) (.new .l fr) (gUn hRevL g) := ⟨by have q := pe_revL (X := X) (k := k) (p1 := p1) (p2 := p2) (p3 := p3) (pos := pos) h.pe; rw [h.hK] at q; exact q, h.hK, se_revLO h.se⟩

/-! ### is True, is not True -/
def hIsB : Dt → Dt → O Dt := fun d e => match d, e with
  | .bool a, .bool b => .ok (.bool (decide (a = b)))
  | _, _ => .bad
def hNotB : Dt → Dt → O Dt := fun d e => match d, e with
  | .bool a, .bool b => .ok (.bool (!decide (a = b)))
  | _, _ => .bad
theorem scl_isB : Scl2 hIsB := fun d e => by cases d <;> cases e <;> first | exact .inr rfl | exact .inl ⟨_, rfl, rfl⟩
theorem scl_notB : Scl2 hNotB := fun d e => by cases d <;> cases e <;> first | exact .inr rfl | exact .inl ⟨_, rfl, rfl⟩
theorem osc_isB : OSc K rIsB hIsB := fun H x y d e Q hx hy h => by
  cases hx <;> cases hy <;> first | exact h.elim | exact ⟨_, _, rfl, rfl, h.2 _ (.bl _)⟩
theorem osc_notB : OSc K rNotB hNotB := fun H x y d e Q hx hy h => by
  cases hx <;> cases hy <;> first | exact h.elim | exact ⟨_, _, rfl, rfl, h.2 _ (.bl _)⟩
theorem or_isB : OR X K .Is rIsB hIsB := ⟨op_isBl, scl_isB, osc_isB⟩
theorem or_notB : OR X K .IsNot rNotB hNotB := ⟨op_notBl, scl_notB, osc_notB⟩
end
/-! ### len(set(ints)) -/
def ddp (ns : List Int) : List Int := firstMet (fun i => ns.getD i 0) ns.length
theorem firstMet_le (val : Nat → Int) : ∀ i, (firstMet val i).length ≤ i
  | 0 => Nat.le_refl _
  | i + 1 => by
    rw [firstMet_succ]
    have := firstMet_le val i
    unfold step_dedup
    split
    · omega
    · rw [List.length_append, List.length_singleton]; omega
def tLenSetG (K : PySem.W.Frag) (ta : TE) : TE := fun σ H Q => ta σ H fun x H1 => ∃ (l : Addr) (ns : List Int), x = V.ref l ∧ SqL K H1 l (ns.map V.int) ∧ ns.length < 64 ∧ Q (.int (ddp ns).length) H1
def hLenSet : Dt → O Dt := fun d => match d with
  | .list xs => match allI xs with
    | some ns => if ns.length < 64 then .ok (.int (ddp ns).length) else .bad
    | none => .bad
  | _ => .bad
section
variable {X : Cx} {K : PySem.W.Frag} {W : Wt} {Δ : List Kd} {a : Expr} {ta te : TE} {g : Gd} {av fr : Bool} {p p2 q pos : Pos}
theorem pe_lenSetG (hc : X.calm = true) (hg : Gl X "len") (hm : X.mg "len" = none) (hg2 : Gl X "set") (hm2 : X.mg "set" = none) (ha : PE X a ta)
    (na : starEach [a] X.env = (false, eval a X.env) :: starEach [] X.env := by rfl) : PE X (.Call (.Name "len" p) [.Call (.Name "set" p2) [a] [] q] [] pos) (tLenSetG X.K ta) := by
  refine ⟨fun pins s σ H Q I h => ?_⟩
  refine Call_ (ld_blt I hg hm PySem.boot_len ?_)
  refine PyProof.Rows.callWith_builtin1 (PyProof.Rows.args_cons ?_ rfl) rfl rfl
  refine Call_ (ld_blt I hg2 hm2 PyProof.Rows.boot_set ?_)
  refine PyProof.Rows.callWith_type1 (PyProof.Rows.args_cons (thn (ha.run pins s σ H _ I h) fun v s1 ⟨x, H1, I1, r1, q1⟩ => PyProof.Rows.args_nil ?_) na) na rfl
  obtain ⟨l, ns, rfl, hq, h1, q1⟩ := q1
  cases r1
  obtain ⟨its, r, pl, hz⟩ := I1.list hq
  have hl : its.toArray.size = ns.length := by rw [List.size_toArray, ← r.length, List.length_map]
  refine call_set_list (I1.ok.hd hc) pl.isList (ns := ns) (by simpa using r.ints) (by unfold scanBound; omega) fun h' tk hS hk => ?_
  rw [hl] at hS
  have hd := firstMet_le (fun i => ns.getD i 0) ns.length
  refine PyProof.Rows.args_nil ?_
  obtain ⟨o, es, ep, t, ho, hex, hd', _, _, _, hf, hn⟩ := hS
  have I2 : Inv X pins σ H1 { s1 with heap := h', toks := tk } := I1.kept fun b o e => hk b o (Heap.lt_size e) e
  refine call_len_set ho hex hd' hf (by rw [hn] <;> omega) ⟨.int (ddp ns).length, H1, I2.tok _, ⟨_, by rw [hn] <;> rfl⟩, q1⟩
theorem se_lenSet (ha : SE K W Δ te (.v av fr) g) : SE K W Δ (tLenSetG K te) (.v true true) (gUn hLenSet g) := fun f ρ σ H Q R q => by
  refine ha f ρ σ H _ R ?_
  unfold gUn at q
  cases e1 : g ρ with
  | bad => rw [e1] at q; exact q
  | ex z => rw [e1] at q; exact q
  | ok d =>
    rw [e1, bnd_ok] at q
    intro v H1 s1 x1
    cases d with
    | list es =>
      unfold hLenSet at q
      simp only at q
      cases ea : allI es with
      | none => rw [ea] at q; exact q.elim
      | some ns =>
        rw [ea] at q
        simp only at q
        by_cases hl : ns.length < 64
        · rw [if_pos hl] at q
          obtain ⟨c, xs, rfl, hs, r⟩ := x1.sql
          rw [rp_ints r ea] at hs
          exact ⟨c, ns, rfl, hs, hl, q _ H1 s1 (.int _)⟩
        · rw [if_neg hl] at q
          exact q.elim
    | _ => exact q.elim
theorem x_lenSet (hm : X.mg "len" = none) (hm2 : X.mg "set" = none) (h : PD X K W Δ a te (.v av fr) g) (hc : X.calm = true := by rfl) (hg : Gl X "len" := by rfl) (hg2 : Gl X "set" := by rfl) (na : starEach [a] X.env = (false, eval a X.env) :: starEach [] X.env := by rfl) :
    PD X K W Δ (.Call (.Name "len" p) [.Call (.Name "set" p2) [a] [] q] [] pos) (tLenSetG K te) (.v true true) (gUn hLenSet g) := ⟨by have w := pe_lenSetG (X := X) (p := p) (p2 := p2) (q := q) (pos := pos) hc hg hm hg2 hm2 h.pe na; rw [h.hK] at w; exact w, h.hK, se_lenSet h.se⟩
end
theorem ddp_nodup {ns : List Int} : (ddp ns).length = ns.length ↔ ns.Nodup := by
  unfold ddp
  constructor
  · intro h
    have key : ∀ i, i ≤ ns.length → (firstMet (fun i => ns.getD i 0) i).length = i → firstMet (fun i => ns.getD i 0) i = ns.take i ∧ (ns.take i).Nodup := by
      intro i
      induction i with
      | zero => intro _ _; exact ⟨rfl, List.nodup_nil⟩
      | succ i ih =>
        intro hi hl
        have hlt : i < ns.length := hi
        rw [firstMet_succ] at hl ⊢
        have hle := firstMet_le (fun i => ns.getD i 0) i
        unfold step_dedup at hl ⊢
        by_cases c : ((firstMet (fun i => ns.getD i 0) i).any (· == ns.getD i 0)) = true
        · rw [if_pos c] at hl; omega
        · rw [if_neg c] at hl ⊢
          rw [List.length_append, List.length_singleton] at hl
          obtain ⟨e1, e2⟩ := ih (by omega) (by omega)
          rw [e1] at c ⊢
          have e : ns.getD i 0 = ns[i] := by rw [List.getD_eq_getElem?_getD, List.getElem?_eq_getElem hlt] <;> rfl
          rw [e] at c ⊢
          have et : ns.take (i + 1) = ns.take i ++ [ns[i]] := by rw [List.take_add_one, List.getElem?_eq_getElem hlt] <;> rfl
          rw [et]
          refine ⟨rfl, ?_⟩
          rw [List.nodup_append]
          refine ⟨e2, by simp, fun x hx y hy => ?_⟩
          rw [List.mem_singleton.mp hy]
          intro z
          subst z
          exact c (List.any_eq_true.mpr ⟨_, hx, by simp⟩)
    obtain ⟨_, e⟩ := key ns.length (Nat.le_refl _) h
    rwa [List.take_length] at e
  · intro h
    rw [L2.firstMet_nodup ns h ns.length (Nat.le_refl _), List.take_length]
end Sim
end T_SimJ

section T_SimS
set_option Elab.async false
set_option linter.all false
set_option maxRecDepth 100000
/-! SimS: sorted(list of tuples of ints), sorted(set(..)) of such and of ints: the hand layer's rules. -/
namespace Sim
/-- the order of lists of ints -/
def lxLt : List Int → List Int → Bool
  | _, [] => false
  | [], _ :: _ => true
  | x :: xs, y :: ys => if x = y then lxLt xs ys else decide (x < y)
theorem lxLt_cons (x y : Int) (xs ys : List Int) : lxLt (x :: xs) (y :: ys) = if x = y then lxLt xs ys else decide (x < y) := rfl
theorem lxLt_irr : ∀ xs : List Int, lxLt xs xs = false
  | [] => rfl
  | x :: xs => by rw [lxLt_cons, if_pos rfl, lxLt_irr xs]
theorem lxLt_trans : ∀ {xs ys zs : List Int}, lxLt xs ys = true → lxLt ys zs = true → lxLt xs zs = true
  | [], [], _, h, _ => by cases h
  | _ :: _, [], _, h, _ => by cases h
  | _, _ :: _, [], _, h => by cases h
  | [], _ :: _, _ :: _, _, _ => rfl
  | x :: xs, y :: ys, z :: zs, h, k => by
    rw [lxLt_cons] at h k ⊢
    by_cases e1 : x = y
    · rw [if_pos e1] at h
      subst e1
      by_cases e2 : x = z
      · rw [if_pos e2] at k ⊢
        exact lxLt_trans h k
      · rw [if_neg e2] at k ⊢
        exact k
    · rw [if_neg e1, decide_eq_true_eq] at h
      by_cases e2 : y = z
      · subst e2
        rw [if_neg e1, decide_eq_true_eq]
        exact h
      · rw [if_neg e2, decide_eq_true_eq] at k
        rw [if_neg (by omega), decide_eq_true_eq]
        omega
theorem lxLt_tri : ∀ {xs ys : List Int}, lxLt xs ys = false → lxLt ys xs = false → xs = ys
  | [], [], _, _ => rfl
  | [], _ :: _, h, _ => by cases h
  | _ :: _, [], _, h => by cases h
  | x :: xs, y :: ys, h, k => by
    rw [lxLt_cons] at h k
    by_cases e : x = y
    · rw [if_pos e] at h
      rw [if_pos e.symm] at k
      rw [e, lxLt_tri h k]
    · rw [if_neg e, decide_eq_false_iff_not] at h
      rw [if_neg (fun z => e z.symm), decide_eq_false_iff_not] at k
      omega
/-- how many of L are less -/
def lrk (L : List (List Int)) (ns : List Int) : Int := ((L.countP fun u => lxLt u ns) : Nat)
theorem count_le {α : Type} {f g : α → Bool} (h : ∀ u, f u = true → g u = true) : ∀ L : List α, L.countP f ≤ L.countP g
  | [] => Nat.le_refl _
  | x :: L => by
    have ih := count_le h L
    rw [List.countP_cons, List.countP_cons]
    cases e : f x with
    | true => rw [h x e]; simp; exact ih
    | false => simp; omega
theorem count_lt {α : Type} {f g : α → Bool} (h : ∀ u, f u = true → g u = true) {p : α} (h1 : f p = false) (h2 : g p = true) : ∀ L : List α, p ∈ L → L.countP f < L.countP g
  | x :: L, hp => by
    rw [List.countP_cons, List.countP_cons]
    rcases List.mem_cons.mp hp with e | hp
    · subst e
      have ih := count_le h L
      rw [h1, h2]
      simp
      omega
    · have ih := count_lt h h1 h2 L hp
      cases e : f x with
      | true => rw [h x e]; simp; exact ih
      | false => simp; omega
theorem lrk_lt {L : List (List Int)} {p q : List Int} (hp : p ∈ L) (hq : q ∈ L) : decide (lrk L p < lrk L q) = lxLt p q := by
  unfold lrk
  cases e : lxLt p q with
  | true =>
    rw [decide_eq_true_eq]
    have := count_lt (f := fun u => lxLt u p) (g := fun u => lxLt u q) (fun u h => lxLt_trans h e) (lxLt_irr p) e L hp
    omega
  | false =>
    rw [decide_eq_false_iff_not]
    cases e2 : lxLt q p with
    | true =>
      have := count_lt (f := fun u => lxLt u q) (g := fun u => lxLt u p) (fun u h => lxLt_trans h e2) (lxLt_irr q) e2 L hq
      omega
    | false =>
      rw [lxLt_tri e e2]
      omega
theorem lift_perm_to {α β : Type} (f : α → β) : ∀ {ys zs : List β}, ys.Perm zs → ∀ L : List α, zs = L.map f → ∃ L' : List α, L'.Perm L ∧ ys = L'.map f := by
  intro ys zs h
  induction h with
  | nil =>
    intro L e
    have : L = [] := List.map_eq_nil_iff.mp e.symm
    subst this
    exact ⟨[], List.Perm.refl _, rfl⟩
  | cons x _ ih =>
    intro L e
    cases L with
    | nil => cases e
    | cons a L =>
      rw [List.map_cons] at e
      injection e with e1 e2
      obtain ⟨L', h1, h2⟩ := ih L e2
      exact ⟨a :: L', h1.cons a, by rw [List.map_cons, e1, h2]⟩
  | swap x y l =>
    intro L e
    cases L with
    | nil => cases e
    | cons a L =>
      cases L with
      | nil => rw [List.map_cons, List.map_nil] at e; injection e with e1 e2; cases e2
      | cons b L =>
        rw [List.map_cons, List.map_cons] at e
        injection e with e1 e2
        injection e2 with e2 e3
        exact ⟨b :: a :: L, List.Perm.swap .., by rw [List.map_cons, List.map_cons, e1, e2, e3]⟩
  | trans _ _ ih1 ih2 =>
    intro L e
    obtain ⟨L2, h1, h2⟩ := ih2 L e
    obtain ⟨L3, h3, h4⟩ := ih1 L2 h2
    exact ⟨L3, h3.trans h1, h4⟩
end Sim
namespace TS
open PySem PyProof.Rows Sim
section
variable {prog : Program} {w : World} {A : Around} {E : Value → Shared → Prop} {s : Shared} {Q : Bool → Shared → Prop}
theorem lex_gen {b : Bool} {xs ys : List Value} {ns ms : List Int} (i : Nat) (hx : IntsAre xs ns) (hy : IntsAre ys ms) (h : Q (lxLt ns ms) s) : PySem.W.KatLex prog w A b (decide (ns.length < ms.length)) Q (xs.zip ys) i s := by
  induction hx generalizing ys ms i with
  | nil =>
    cases hy with
    | nil => exact PySem.W.kat_nil h
    | cons q u hy => exact PySem.W.kat_nil (by rw [show decide (([] : List Int).length < (q :: _).length) = true by simp]; exact h)
  | @cons p t xs ns hx ih =>
    cases hy with
    | nil => exact PySem.W.kat_nil (by rw [show decide ((p :: ns).length < ([] : List Int).length) = false by simp]; exact h)
    | @cons q u ys ms hy =>
      have e0 : decide ((p :: ns).length < (q :: ms).length) = decide (ns.length < ms.length) := by simp
      rw [e0]
      show PySem.W.KatLex prog w A b _ Q ((Value.int p t, Value.int q u) :: xs.zip ys) i s
      rw [lxLt_cons] at h
      refine PySem.W.kat_cons (wpAny_eqBool_int ?_)
      by_cases e : p = q
      · rw [if_pos e] at h
        subst e
        rw [beq_self_eq_true]
        exact PySem.W.kat_yes (ih (i + 1) hy h)
      · rw [if_neg e] at h
        rw [show (p == q) = false from beq_eq_false_iff_ne.mpr e]
        exact PySem.W.kat_no (oneLt_ints _ h)
end
/-- tuples of ints, none empty -/
def TupsL (h : Heap) (vs : List Value) : Prop := ∀ v, v ∈ vs → ∃ ns, TupInts h v ns ∧ ns ≠ []
theorem TupsL.keeps {h h' : Heap} {vs : List Value} (x : TupsL h vs) (k : ∀ b o, h.get? b = some o → o.cls = .type "tuple" → h'.get? b = some o) : TupsL h' vs := fun v hv =>
  let ⟨ns, t, r⟩ := x v hv; ⟨ns, t.keeps k, r⟩
theorem firsts_lex {h : Heap} : ∀ vs : List Value, TupsL h vs → ∃ fs, PySem.W.KatTups h vs fs ∧ fs.length = vs.length ∧ ∀ f, f ∈ fs → ∃ n t, f = Value.int n t
  | [], _ => ⟨[], PySem.W.KatTups.nil, rfl, fun f hf => by simp at hf⟩
  | v :: vs, x => by
    obtain ⟨fs, k, hl, hi⟩ := firsts_lex vs fun u hu => x u (List.mem_cons_of_mem _ hu)
    obtain ⟨ns, ⟨a, xs, rfl, ⟨o, ho, hc, n, hdt⟩, i⟩, hn⟩ := x v (List.mem_cons_self ..)
    obtain ⟨y, ys, e⟩ : ∃ y ys, xs.toList = y :: ys := by
      cases q : xs.toList with
      | nil =>
        rw [q] at i
        cases i
        exact absurd rfl hn
      | cons y ys => exact ⟨y, ys, rfl⟩
    obtain ⟨m, t, hy⟩ := i.all y (by rw [e]; exact List.mem_cons_self ..)
    refine ⟨y :: fs, PySem.W.KatTups.cons ho hc hdt ?_ k, by simp [hl], fun f hf => ?_⟩
    · have z := congrArg (fun l : List Value => l[0]?) e
      simpa using z
    · rcases List.mem_cons.mp hf with rfl | hf
      · exact ⟨m, t, hy⟩
      · exact hi f hf
section
variable {prog : Program} {w : World} {A : Around} {E : Value → Shared → Prop} {s : Shared}
theorem kind_lex {vs : List Value} (h2 : 2 ≤ vs.length) (x : TupsL s.heap vs) (r : Value → Int) (hr : ∀ v, v ∈ vs → ∀ u, u ∈ vs → ∀ ns ms, TupInts s.heap v ns → TupInts s.heap u ms → decide (r v < r u) = lxLt ns ms) (Q : SortKind → Shared → Prop)
    (h : ∀ κ, Cmp prog w A s κ (pairsOf vs) r → Q κ s) : wpAny (model prog w) A (keyKind' vs.toArray) Q E s := by
  obtain ⟨fs, k, hl, hi⟩ := firsts_lex vs x
  refine PySem.W.kat_kind (T := Value.type "int") k (by omega) (fun f hf => ?_) rfl (h _ fun p q hp hq Q' E' hQ => ?_)
  · obtain ⟨n, t, rfl⟩ := hi f hf
    exact PySem.W.Looks.of_pure rfl
  · rw [pairsOf_toList] at hp hq
    obtain ⟨ns, tp, _⟩ := x _ (mem_zip_self hp).2
    obtain ⟨ms, tq, _⟩ := x _ (mem_zip_self hq).2
    have hQ' : Q' (lxLt ns ms) s := by
      rw [← hr _ (mem_zip_self hp).2 _ (mem_zip_self hq).2 ns ms tp tq]
      exact hQ
    obtain ⟨a, xs, e1, ⟨o, ho, hc, n, hdt⟩, i⟩ := tp
    obtain ⟨a', ys, e2, ⟨o', ho', hc', n', hdt'⟩, i'⟩ := tq
    rw [e1, e2]
    refine PySem.W.kat_lt ho hdt ho' hdt' ?_
    have l1 := i.length
    have l2 := i'.length
    rw [Array.length_toList] at l1 l2
    rw [l1, l2]
    exact lex_gen 0 i i' hQ'
/-- the sort of a list of tuples of ints -/
theorem sort_lex {a : Addr} {vs : List Value} {n : Nat} {P : PySem.Fin → Shared → Prop} (ho : s.heap.get? a = some (seqObj "list" vs.toArray n)) (h64 : vs.length < 64) (x : TupsL s.heap vs)
    (h : ∀ out : Array Value, out.toList.Perm vs → out.toList.Pairwise (fun u v => lxLt (intsOf s.heap v) (intsOf s.heap u) = false) → P (.done (.ret .none)) { s with heap := sortedHeap s.heap a vs out }) :
    wpAny (model prog w) A (Builtin.«list.sort» ⟨[.ref a], []⟩) P E s := by
  have keep : ∀ b o, s.heap.get? b = some o → o.cls = .type "tuple" → (midHeap s.heap a vs).get? b = some o := fun b o e hc => by
    refine midHeap_old ?_ e
    rintro rfl
    rw [ho] at e
    cases Option.some.inj e
    exact absurd hc (by simp [seqObj])
  have mem : ∀ v, v ∈ vs → intsOf s.heap v ∈ vs.map (intsOf s.heap) := fun v hv => List.mem_map.mpr ⟨v, hv, rfl⟩
  refine SK.plain_sort (r := fun v => lrk (vs.map (intsOf s.heap)) (intsOf s.heap v)) ho h64 (fun h2 Q hQ => ?_) fun ps out h1 h2 h3 => ?_
  · refine kind_lex (s := { s with heap := midHeap s.heap a vs }) h2 (x.keeps keep) _ (fun v hv u hu ns ms tv tu => ?_) Q hQ
    obtain ⟨ns0, t0, _⟩ := x v hv
    obtain ⟨ms0, t1, _⟩ := x u hu
    have e : ns = ns0 := tv.ints.symm.trans (t0.keeps keep).ints
    have e' : ms = ms0 := tu.ints.symm.trans (t1.keeps keep).ints
    rw [e, e', ← t0.ints, ← t1.ints]
    exact lrk_lt (mem v hv) (mem u hu)
  · obtain ⟨p, o⟩ := out_rank (r := fun v => lrk (vs.map (intsOf s.heap)) (intsOf s.heap v)) h1 h2 h3
    refine h out p (List.Pairwise.imp_of_mem (fun {u v} hu hv hle => ?_) o)
    rw [← lrk_lt (mem v (p.mem_iff.mp hv)) (mem u (p.mem_iff.mp hu)), decide_eq_false_iff_not]
    omega
theorem call_sort_lex {a : Addr} {vs : List Value} {n : Nat} {Q : Value → Shared → Prop} (ho : s.heap.get? a = some (seqObj "list" vs.toArray n)) (h64 : vs.length < 64) (x : TupsL s.heap vs)
    (h : ∀ out : Array Value, out.toList.Perm vs → out.toList.Pairwise (fun u v => lxLt (intsOf s.heap v) (intsOf s.heap u) = false) → Q .none { s with heap := sortedHeap s.heap a vs out }) :
    wpAny (model prog w) A (call (.builtin "list.sort") [.ref a]) Q E s :=
  wpAny_call_entry slot_list_sort ⟨_, ho, rfl⟩ entry_list_sort (sort_lex ho h64 x fun out h1 h2 => ⟨_, rfl, h out h1 h2⟩) (args_list_sort _)
theorem sorted_lex {l : Addr} {vs : List Value} {Q : Value → Shared → Prop} (hl : s.heap.IsList l vs.toArray) (h64 : vs.length < 64) (x : TupsL s.heap vs)
    (h : ∀ out : Array Value, out.toList.Perm vs → out.toList.Pairwise (fun u v => lxLt (intsOf s.heap v) (intsOf s.heap u) = false) → Q (.ref (s.heap.objs.size + 1)) { s with heap := sortedAll s.heap vs out }) :
    wpAny (model prog w) A (call (.builtin "sorted") [.ref l]) Q E s := by
  refine Calls.call_function_entry kind_sorted plain_sorted entry_sorted (args_sorted1 _) ?_
  unfold Builtin.«sorted»
  refine wpAny_bind (m := checkCount "sorted" 1 1 _) (wpAny_pure ?_)
  refine wpAny_bind (collect_list hl ?_ (by rw [sizeLine_eq]; omega))
  refine wpAny_bind (wpAny_newList ?_ (by rw [sizeLine_eq]; omega))
  have hsz : ((s.heap.push (seqObj "list" #[] 0)).update s.heap.objs.size (Obj.mapSeq (· ++ vs.toArray))).objs.size = s.heap.objs.size + 1 := by rw [Heap.size_update, size_push']
  have hoL : (((s.heap.push (seqObj "list" #[] 0)).update s.heap.objs.size (Obj.mapSeq (· ++ vs.toArray))).push (seqObj "list" vs.toArray 0)).get? (s.heap.objs.size + 1) = some (seqObj "list" vs.toArray 0) := by rw [← hsz]; exact Heap.get?_push_size _ rfl
  have keep : ∀ b o, s.heap.get? b = some o → o.cls = .type "tuple" → (((s.heap.push (seqObj "list" #[] 0)).update s.heap.objs.size (Obj.mapSeq (· ++ vs.toArray))).push (seqObj "list" vs.toArray 0)).get? b = some o := fun b o q _ => by
    have hlt : b < s.heap.objs.size := Heap.lt_size q
    rw [Heap.get?_push_ne _ _ _ (by rw [hsz]; exact Nat.ne_of_lt (Nat.lt_succ_of_lt hlt)), Heap.get?_update_ne _ _ _ _ (Nat.ne_of_lt hlt), Heap.get?_push_ne _ _ _ (Nat.ne_of_lt hlt)]
    exact q
  show wpAny _ _ _ _ _ { s with heap := ((s.heap.push (seqObj "list" #[] 0)).update s.heap.objs.size (Obj.mapSeq (· ++ vs.toArray))).push (seqObj "list" vs.toArray 0) }
  rw [hsz]
  refine wpAny_bind (wpAny_holding (wpAny_call_entry slot_list_sort ⟨_, hoL, rfl⟩ entry_list_sort (sort_lex hoL h64 (x.keeps keep) fun out a1 a2 => ⟨_, rfl, ?_⟩) (args_list_sort _)))
  refine wpAny_pure ⟨_, rfl, h out a1 (List.Pairwise.imp_of_mem (fun {u v} hu hv hlt => ?_) a2)⟩
  have one : ∀ v, v ∈ out.toList → intsOf (((s.heap.push (seqObj "list" #[] 0)).update s.heap.objs.size (Obj.mapSeq (· ++ vs.toArray))).push (seqObj "list" vs.toArray 0)) v = intsOf s.heap v := fun v hv => by
    obtain ⟨ns, t, _⟩ := x v (a1.mem_iff.mp hv)
    rw [(t.keeps keep).ints, t.ints]
  rw [← one v hv, ← one u hu]
  exact hlt
end
end TS
end T_SimS

section T_SimT
set_option Elab.async false
set_option linter.all false
set_option maxRecDepth 100000
/-! SimT: sorted(set(list)), sorted(list) of tuples; tuple(range): rules and closures. -/
namespace L2
open PySem PySem.Spec PyProof.Rows Sim
section
variable {P : Program} {w : World} {A : Around} {E : Value → Shared → Prop} {s : Shared}
abbrev freshSet (w : World) : Obj := { cls := .type "set", dict := none, data := .set #[] 0 (.fresh 0 0 (!w.params.followText "set-order")) }
set_option maxHeartbeats 3200000 in
/-- set(xs), xs a list of ints: as the walk over a set wants it -/
theorem call_set_lstI {l : Addr} {items : Array Value} (ns : List Int) {Q : Value → Shared → Prop} (hh : A.handled = none) (hl : s.heap.IsList l items) (hit : IntsAre items.toList ns) (hb : ns.length + 1 < scanBound)
    (h : ∀ (h' : Heap) (tk c : Nat), SetR w h' s.heap.objs.size (fun j => decide (j ∈ ns)) c → c ≤ ns.length → (∀ b o, s.heap.get? b = some o → h'.get? b = some o) → Q (.ref s.heap.objs.size) { s with heap := h', toks := tk }) :
    wpAny (model P w) A (call (.type "set") [.ref l]) Q E s := by
  have hisz : items.size = ns.length := by
    have q := IntsAre.length hit
    rwa [Array.length_toList] at q
  obtain ⟨c, tl, hmro⟩ := F.called_set.mro
  have hmade := F.called_set.made
  have hsub := F.called_set.sub
  refine wpAny_call (codeAny_of_tree ?_)
  show wpAny _ _ (callAny (.type "set") _) _ _ _
  refine wpAny_pure ⟨Code.quiet_builtin _ (by decide +kernel), codeAny_builtin F.entry_type_call ?_⟩
  rw [Around.under_plain (weight_type_call_type "set" [.ref l] []) rfl]
  have h1 := F.called_set.notType
  have h2 := F.called_set.canCreate
  have hct := F.typeCall_set_1 (.ref l)
  repeat (any_goals (first | assumption | wp_step))
  refine codeAny_mono (code_set_led1 (.ref l) (E := E) (Q₁ := fun obj s₁ => obj = .ref s.heap.objs.size ∧ s₁ = { s with heap := s.heap.push (freshSet w) }) ⟨rfl, rfl⟩) fun r s₁ hr => ?_
  cases r with
  | error e => exact hr
  | ok fl =>
    cases fl with
    | ret obj =>
      obtain ⟨rfl, rfl⟩ := hr
      have hS : (s.heap.push (freshSet w)).get? s.heap.objs.size = some (freshSet w) := Heap.get?_push_size _ rfl
      have hT : Shared.TypeIs { s with heap := s.heap.push (freshSet w) } (.ref s.heap.objs.size) "set" := ⟨_, hS, rfl⟩
      have hli := F.called_set.init.lookup
      have hbi := F.called_set.init.bind (.ref s.heap.objs.size)
      repeat (any_goals (first | assumption | wp_step))
      refine codeAny_mono (codeAny_call_builtin (R := wants (fun r s₂ => r = .none ∧ ∃ h' tk c, s₂ = { s with heap := h', toks := tk } ∧ SetR w h' s.heap.objs.size (fun j => decide (j ∈ ns)) c ∧ c ≤ ns.length ∧
          (∀ b o, s.heap.get? b = some o → h'.get? b = some o)) E) F.called_set.init.plain F.entry_set_init (check_set_init_1 hT ?_)) fun r₂ s₂ hr₂ => ?_
      · obtain ⟨ol, hol, hcl, nl, hdl⟩ := hl
        obtain ⟨ocls, odict, odata, oslots⟩ := ol
        simp only at hcl hdl
        subst hcl; subst hdl
        have hol' : (s.heap.push (freshSet w)).get? l = some { cls := .type "list", dict := odict, data := .seq items nl, slots := oslots } := Heap.get?_push_of_some _ hol
        have hsls := F.sub_list_set
        have hslf := F.sub_list_frozenset
        have hne : (Value.type "list" == Value.type "dict") = false := by decide
        have hl1 : (s.heap.push (freshSet w)).IsList l items := ⟨_, hol', rfl, nl, rfl⟩
        unfold Builtin.«set.__init__» noKeywords Builtin.Frozenset.updateFrom
        generalize hPI : pyIter = PI
        wp_walk
        subst hPI
        refine wpAny_pyIter_list hl1 ?_
        refine wpAny_bind (wpAny_runValue ?_)
        have hlS : l < s.heap.objs.size := Heap.lt_size hol
        have hh3 : A.in1.in1.in1.handled = none := by simp [hh]
        have hneI : l ≠ (s.heap.push (freshSet w)).objs.size := by
          rw [Heap.size_push]; exact Nat.ne_of_lt (Nat.lt_succ_of_lt hlS)
        have hSf : s.heap.objs.size ∉ [(s.heap.push (freshSet w)).objs.size, l] := by
          rw [Heap.size_push]; simp only [List.mem_cons, List.mem_singleton, List.not_mem_nil, or_false, not_or]
          exact ⟨Nat.ne_of_lt (Nat.lt_succ_self _), Nat.ne_of_gt hlS⟩
        have hval : ∀ (i : Nat) (v : Value), items[i]? = some v → ∃ k t, ns[i]? = some k ∧ v = .int k t := fun i v hv => by
          have hi : i < ns.length := by rw [← hisz]; exact (Array.getElem?_eq_some_iff.mp hv).1
          obtain ⟨t, e⟩ := PyProof.Rows.IntsAre.int_at hit i v (by rw [Array.getElem?_toList]; exact hv)
          refine ⟨ns[i], t, List.getElem?_eq_getElem hi, ?_⟩
          rw [e, List.getD_eq_getElem?_getD, List.getElem?_eq_getElem hi] <;> rfl
        refine set_update_ints ((Walks.list hh3 _ l hneI items).toS) s.heap.objs.size
          hSf ns hisz hb hval (items.size - 0) 0 _ (by omega) (Nat.zero_le _)
          ⟨⟨_, Heap.get?_push_size _ rfl, rfl, rfl⟩, (hl1.push _)⟩ ?hS0 ?hR
        case hS0 =>
          have hget : ((s.heap.push (freshSet w)).push { cls := .type "list_iterator", data := .fields #[.ref l, .int 0 0] }).get? s.heap.objs.size = some (freshSet w) := Heap.get?_push_of_some _ hS
          exact ⟨0, Nat.le_refl 0, setR_new_at hget⟩
        case hR =>
          intro s' c' hm hc' hS'
          obtain ⟨h', g2, d', tk', os'⟩ := s'
          have eg : g2 = s.gens := hm.gens
          have ed : d' = s.drawn := hm.drawn
          have eo : os' = s.os := hm.os
          subst eg; subst ed; subst eo
          show wpAny _ _ _ _ _ _
          refine wpAny_pure ?_
          show wpAny _ _ (ret Value.none) _ _ _
          rw [hisz] at hc'
          refine wpAny_pure ⟨rfl, h', tk', c', rfl, hS', hc', fun b o e => ?_⟩
          have hb0 : b < s.heap.objs.size := Heap.lt_size e
          have hb1 : b ≠ s.heap.objs.size := Nat.ne_of_lt hb0
          have hb2 : b ≠ (s.heap.push (freshSet w)).objs.size := by
            rw [Heap.size_push]; exact Nat.ne_of_lt (Nat.lt_succ_of_lt hb0)
          exact hm.heap b o (by simp only [List.mem_cons, List.mem_singleton, List.not_mem_nil, or_false, not_or]; exact ⟨hb1, hb2⟩) (Heap.get?_push_of_some _ (Heap.get?_push_of_some _ e))
      · cases r₂ with
        | error e => exact hr₂
        | ok fl₂ =>
          cases fl₂ with
          | ret r =>
            obtain ⟨rfl, h', tk, c', rfl, hS', hc', hk'⟩ := hr₂
            repeat (any_goals (first | assumption | wp_step))
            exact h _ _ _ hS' hc' hk'
          | _ => exact hr₂.elim
    | _ => exact hr.elim
/-- sorted(set) of tuples of ints, of any lengths -/
theorem sorted_setL {a : Addr} {L : List (Addr × List Int)} {es : Array (Int × Value)} {ep : Nat} {t : SetTable} {Q : Value → Shared → Prop} (R : SetTR P w s.heap a L es ep t) (hh : A.handled = none) (hne : ∀ p ∈ L, p.2 ≠ [])
    (hQ : ∀ s' p (out : Array Value) (c : Nat) (L' : List (Addr × List Int)), (∀ b o, s.heap.get? b = some o → s'.heap.get? b = some o) → s'.gens = s.gens → s'.os = s.os → s.heap.objs.size ≤ p →
      s'.heap.get? p = some (seqObj "list" out c) → out.toList = L'.map (fun q => Value.ref q.1) → L'.Perm L → L'.Pairwise (fun q r => lxLt r.2 q.2 = false) → Q (.ref p) s') :
    wpAny (model P w) A (call (.builtin "sorted") [.ref a]) Q E s := by
  obtain ⟨o, ho, hex, hd⟩ := R.ob
  have hfew := R.few
  have hsz := R.size
  refine Calls.call_function_entry kind_sorted plain_sorted entry_sorted (args_sorted1 _) ?_
  unfold Builtin.«sorted»
  refine wpAny_bind (m := checkCount "sorted" 1 1 _) (wpAny_pure ?_)
  refine wpAny_bind (collect_set (A := A.in1) hh ⟨o, ho, hex.1, hd⟩ R.fits (by unfold scanBound; omega) R.tab.ris R.led fun s1 vs k1 hz g1 o1 pm => ?_)
  have hes : es.toList.map (·.2) = L.map fun q => Value.ref q.1 := by
    rw [R.rows]
    unfold rowsOf
    rw [List.map_map]
    rfl
  rw [hes] at pm
  have hvl : vs.length < 64 := by rw [pm.length_eq, List.length_map]; exact hfew
  refine wpAny_bind (wpAny_newList ?_ (by rw [sizeLine_eq]; omega))
  have hoL : (s1.heap.push (seqObj "list" vs.toArray 0)).get? s1.heap.objs.size = some (seqObj "list" vs.toArray 0) := Heap.get?_push_size _ rfl
  have tk : ∀ q ∈ L, TS.TupInts (s1.heap.push (seqObj "list" vs.toArray 0)) (.ref q.1) q.2 := fun q hq => tupInts_of (P := P) (w := w) (isT_keep (R.tup q hq) fun b u e => Heap.get?_push_of_some _ (k1 b u e))
  have x : TS.TupsL (s1.heap.push (seqObj "list" vs.toArray 0)) vs := fun v hv => by
    obtain ⟨q, hq, e⟩ := List.mem_map.mp (pm.mem_iff.mp hv)
    rw [← e]
    exact ⟨q.2, tk q hq, hne q hq⟩
  refine wpAny_bind (wpAny_holding (TS.call_sort_lex (s := { s1 with heap := s1.heap.push (seqObj "list" vs.toArray 0) }) hoL hvl x fun out a1 a2 => ?_))
  obtain ⟨c, hc⟩ := sortedHeap_at (vs := vs) (out := out) hoL
  obtain ⟨L', pL, e'⟩ := lift_perm_to (fun q : Addr × List Int => Value.ref q.1) (a1.trans pm) L rfl
  refine wpAny_pure ⟨_, rfl, hQ _ s1.heap.objs.size out c L' (fun b u e => ?_) g1 o1 hz hc e' pL ?_⟩
  · have q := k1 b u e
    have hlt := Heap.lt_size q
    show (sortedHeap (s1.heap.push (seqObj "list" vs.toArray 0)) s1.heap.objs.size vs out).get? b = some u
    rw [sortedHeap_old (Nat.ne_of_lt hlt) (by rw [size_push']; exact Nat.lt_succ_of_lt hlt)]
    exact Heap.get?_push_of_some _ q
  · rw [e'] at a2
    refine List.Pairwise.imp_of_mem (fun {q r} hq hr hle => ?_) (List.pairwise_map.mp a2)
    rw [← (tk q (pL.mem_iff.mp hq)).ints, ← (tk r (pL.mem_iff.mp hr)).ints]
    exact hle
end
end L2
namespace Sim
open PySem PySem.Spec L2
open PyProof.Rows hiding St
section
variable {X : Cx}
/-- sorted(xs), xs a list of tuples of ints -/
def rSortL (K : PySem.W.Frag) : List V → Hp → VK → Prop := fun vs H Q => ∃ (a : Addr) (L : List (Addr × List Int)), vs = [V.ref a] ∧ SqL K H a (L.map fun p => V.ref p.1) ∧ L.length < 64 ∧ (∀ p ∈ L, SqT K H p.1 (p.2.map V.int) ∧ p.2 ≠ []) ∧
  ∀ (L' : List (Addr × List Int)) (p : Addr), L'.Perm L → L'.Pairwise (fun q r => lxLt r.2 q.2 = false) → H p = none → Q (.ref p) (upd H p (.lst (L'.map fun q => V.ref q.1)))
theorem cr_sortL : CallR X (.builtin "sorted") (rSortL X.K) := by
  intro pins s σ H vs us Q I r h
  obtain ⟨a, L, rfl, hs, h64, hx, q⟩ := h
  obtain ⟨its, rv, hl, hz⟩ := I.list hs
  rw [Vals.ref1 r]
  have eits := refs_of_vals rv
  have tk : ∀ p ∈ L, TS.TupInts s.heap (.ref p.1) p.2 := fun p hp => tupI_raw I (hx p hp).1
  refine TS.sorted_lex hl.isList (by rw [← rv.length, List.length_map]; exact h64) (fun v hv => ?_) fun out h1 h2 => ?_
  · rw [eits] at hv
    obtain ⟨p, hp, e⟩ := List.mem_map.mp hv
    rw [← e]
    exact ⟨p.2, tk p hp, (hx p hp).2⟩
  · obtain ⟨ep, he'⟩ := PyProof.Rows.sortedAll_at s.heap its out
    obtain ⟨L', pL, e'⟩ := lift_perm_to (fun q : Addr × List Int => Value.ref q.1) h1 L eits
    have hlen : (L'.map fun q => V.ref q.1).length ≤ sizeLine := by rw [List.length_map, pL.length_eq, sizeLine_eq]; omega
    have hv : Vals (L'.map fun q => V.ref q.1) out.toList := by rw [e']; exact vals_of_refs L'
    refine ⟨.ref _, upd H (s.heap.objs.size + 1) (.lst (L'.map fun q => V.ref q.1)), I.laid (t' := s.toks) (fun _ _ => PyProof.Rows.sortedAll_old) (Nat.le_succ _) ⟨hlen, out.toList, ep, hv, he'⟩, rfl, q L' _ pL ?_ (I.hok.fresh (Nat.le_succ _))⟩
    rw [e'] at h2
    refine List.Pairwise.imp_of_mem (fun {q r} hq hr hle => ?_) (List.pairwise_map.mp h2)
    rw [← (tk q (pL.mem_iff.mp hq)).ints, ← (tk r (pL.mem_iff.mp hr)).ints]
    exact hle
/-- sorted(set(xs)) of ints -/
def tSortSetI (K : PySem.W.Frag) (te : TE) : TE := fun σ H Q => te σ H fun x H1 => ∃ (l : Addr) (ns : List Int), x = V.ref l ∧ SqL K H1 l (ns.map V.int) ∧ ns.length < 64 ∧
  ∀ (ns' : List Int) (p : Addr), ns'.Pairwise (· < ·) → (∀ k, k ∈ ns' ↔ k ∈ ns) → H1 p = none → Q (.ref p) (upd H1 p (.lst (ns'.map V.int)))
/-- sorted(set(xs)) of tuples of ints -/
def tSortSetT (K : PySem.W.Frag) (te : TE) : TE := fun σ H Q => te σ H fun x H1 => ∃ (l : Addr) (ks : List (Addr × List Int)), x = V.ref l ∧ SqL K H1 l (ks.map fun p => V.ref p.1) ∧ (∀ p ∈ ks, SqT K H1 p.1 (p.2.map V.int) ∧ p.2 ≠ []) ∧ ks.length < 64 ∧
  ∀ (L : List (Addr × List Int)) (p : Addr), (∀ q ∈ L, q ∈ ks) → (∀ q ∈ ks, q.2 ∈ L.map (·.2)) → (L.map (·.2)).Nodup → L.Pairwise (fun q r => lxLt r.2 q.2 = false) → H1 p = none → Q (.ref p) (upd H1 p (.lst (L.map fun q => V.ref q.1)))
variable {a : Expr} {ta te : TE} {p p2 q pos : Pos}
theorem pe_sortSetI (hc : X.calm = true) (hg : Gl X "sorted") (hm : X.mg "sorted" = none) (hg2 : Gl X "set") (hm2 : X.mg "set" = none) (ha : PE X a ta)
    (na : starEach [a] X.env = (false, eval a X.env) :: starEach [] X.env := by rfl) : PE X (.Call (.Name "sorted" p) [.Call (.Name "set" p2) [a] [] q] [] pos) (tSortSetI X.K ta) := by
  refine ⟨fun pins s σ H Q I h => ?_⟩
  refine Call_ (ld_blt I hg hm (by decide +kernel : bootBuiltins "sorted" = some (.builtin "sorted")) ?_)
  refine PyProof.Rows.callWith_builtin1 (PyProof.Rows.args_cons ?_ rfl) rfl rfl
  refine Call_ (ld_blt I hg2 hm2 PyProof.Rows.boot_set ?_)
  refine PyProof.Rows.callWith_type1 (PyProof.Rows.args_cons (thn (ha.run pins s σ H _ I h) fun v s1 ⟨x, H1, I1, r1, q1⟩ => PyProof.Rows.args_nil ?_) na) na rfl
  obtain ⟨l, ns, rfl, hq, h1, q1⟩ := q1
  cases r1
  obtain ⟨its, r, pl, hz⟩ := I1.list hq
  refine call_set_lstI ns (I1.ok.hd hc) pl.isList (by simpa using r.ints) (by unfold scanBound; omega) fun h' tk c hS hcl hk => ?_
  have I2 : Inv X pins σ H1 { s1 with heap := h', toks := tk } := I1.kept hk
  refine PyProof.Rows.args_nil ?_
  refine sorted_set (s := { s1 with heap := h', toks := tk }) hS (I1.ok.hd hc) (by omega) fun s' p' out c' ns' k g o hp hgt hI hpw hmem hlen => ?_
  have hn : H1 p' = none := I2.hok.fresh hp
  have hle : (ns'.map V.int).length ≤ sizeLine := by rw [List.length_map, sizeLine_eq]; omega
  have J : Inv X pins σ (upd H1 p' (.lst (ns'.map V.int))) { ({ s1 with heap := h', toks := tk } : Shared) with heap := s'.heap, gens := s'.gens, drawn := s'.drawn, toks := s'.toks } :=
    I2.call (ch := []) (Un.laid k hp hn) (I2.hok.laid k hp ⟨hle, out.toList, c', vals_of_ints hI, hgt⟩) (by rw [g]; exact I2.bare) (fun _ z => nomatch z)
  have e : s' = { ({ s1 with heap := h', toks := tk } : Shared) with heap := s'.heap, gens := s'.gens, drawn := s'.drawn, toks := s'.toks } := by
    cases s'
    cases s1
    cases o
    rfl
  rw [e]
  exact ⟨.ref p', _, J, rfl, q1 ns' p' hpw (fun k => by rw [hmem k, decide_eq_true_eq]) hn⟩
theorem pe_sortSetT (hc : X.calm = true) (hu : X.A.units + 64 < cLine) (hg : Gl X "sorted") (hm : X.mg "sorted" = none) (hg2 : Gl X "set") (hm2 : X.mg "set" = none) (ha : PE X a ta)
    (na : starEach [a] X.env = (false, eval a X.env) :: starEach [] X.env := by rfl) : PE X (.Call (.Name "sorted" p) [.Call (.Name "set" p2) [a] [] q] [] pos) (tSortSetT X.K ta) := by
  refine ⟨fun pins s σ H Q I h => ?_⟩
  refine Call_ (ld_blt I hg hm (by decide +kernel : bootBuiltins "sorted" = some (.builtin "sorted")) ?_)
  refine PyProof.Rows.callWith_builtin1 (PyProof.Rows.args_cons ?_ rfl) rfl rfl
  refine Call_ (ld_blt I hg2 hm2 PyProof.Rows.boot_set ?_)
  refine PyProof.Rows.callWith_type1 (PyProof.Rows.args_cons (thn (ha.run pins s σ H _ I h) fun v s1 ⟨x, H1, I1, r1, q1⟩ => PyProof.Rows.args_nil ?_) na) na rfl
  obtain ⟨l, ks, rfl, hq, hks, h1, q1⟩ := q1
  cases r1
  obtain ⟨its, r, pl, hz⟩ := I1.list hq
  refine call_set_tups (P := X.prog) (w := X.w) ks (I1.ok.hd hc) pl.isList (by simpa using refs_of_vals r) (fun p hp => I1.isT (hks p hp).1) h1 (by omega) fun h' tk L es ep t R g0 hk => ?_
  have I2 : Inv X pins σ H1 { s1 with heap := h', toks := tk } := I1.kept hk
  have hsub : ∀ q ∈ L, q ∈ ks := fun q hq => List.mem_of_mem_take (g0.sub q hq)
  refine PyProof.Rows.args_nil ?_
  refine sorted_setL (s := { s1 with heap := h', toks := tk }) R (I1.ok.hd hc) (fun q hq => (hks q (hsub q hq)).2) fun s' p' out c' L' k g o hp hgt hout pm hpw => ?_
  have hn : H1 p' = none := I2.hok.fresh hp
  have hfew : L'.length < 64 := by rw [pm.length_eq]; exact R.few
  have hle : (L'.map fun q => V.ref q.1).length ≤ sizeLine := by rw [List.length_map, sizeLine_eq]; omega
  have hv : Vals (L'.map fun q => V.ref q.1) out.toList := by rw [hout]; exact vals_of_refs L'
  have J : Inv X pins σ (upd H1 p' (.lst (L'.map fun q => V.ref q.1))) { ({ s1 with heap := h', toks := tk } : Shared) with heap := s'.heap, gens := s'.gens, drawn := s'.drawn, toks := s'.toks } :=
    I2.call (ch := []) (Un.laid k hp hn) (I2.hok.laid k hp ⟨hle, out.toList, c', hv, hgt⟩) (by rw [g]; exact I2.bare) (fun _ z => nomatch z)
  have e : s' = { ({ s1 with heap := h', toks := tk } : Shared) with heap := s'.heap, gens := s'.gens, drawn := s'.drawn, toks := s'.toks } := by
    cases s'
    cases s1
    cases o
    rfl
  rw [e]
  refine ⟨.ref p', _, J, rfl, q1 L' p' (fun q hq => hsub q (pm.mem_iff.mp hq)) (fun q hq => ?_) ((pm.map (·.2)).nodup_iff.mpr R.nd) hpw hn⟩
  have := g0.all q (by rw [List.take_length]; exact hq)
  exact (pm.map (·.2)).mem_iff.mpr this
end
end Sim
end T_SimT

section T_SimU
set_option Elab.async false
set_option linter.all false
set_option maxRecDepth 100000
/-! SimU: sorted(list of tuples), sorted(set(..)), tuple(range): the closures. -/
namespace Sim
open PySem PySem.Spec L2
open PyProof.Rows hiding St

def allT : List Dt → Option (List (List Int))
  | [] => some []
  | .tuple xs :: ds => match allI xs with
    | some ns => match allT ds with
      | some nss => some (ns :: nss)
      | none => none
    | none => none
  | _ :: _ => none
def encL (ns : List Int) : Dt := .tuple (ns.map .int)
theorem allT_map : ∀ nss : List (List Int), allT (nss.map encL) = some nss
  | [] => rfl
  | ns :: nss => by
    rw [List.map_cons]
    unfold encL allT
    rw [show allI (ns.map PyData.int) = some ns from allI_map ns]
    have := allT_map nss
    unfold encL at this
    rw [this]
def dd {α : Type} [DecidableEq α] : List α → List α
  | [] => []
  | x :: xs => if x ∈ xs then dd xs else x :: dd xs
theorem mem_dd {α : Type} [DecidableEq α] {y : α} : ∀ {xs : List α}, y ∈ dd xs ↔ y ∈ xs
  | [] => Iff.rfl
  | x :: xs => by
    unfold dd
    split
    · rename_i h
      rw [mem_dd, List.mem_cons]
      exact ⟨.inr, fun z => z.elim (fun e => e ▸ h) id⟩
    · rw [List.mem_cons, List.mem_cons, mem_dd]
theorem nodup_dd {α : Type} [DecidableEq α] : ∀ xs : List α, (dd xs).Nodup
  | [] => List.nodup_nil
  | x :: xs => by
    unfold dd
    split
    · exact nodup_dd xs
    · rename_i h
      exact List.nodup_cons.mpr ⟨fun z => h (mem_dd.mp z), nodup_dd xs⟩
def tsort (nss : List (List Int)) : List (List Int) := nss.mergeSort fun a b => !lxLt b a
def tset (nss : List (List Int)) : List (List Int) := tsort (dd nss)
def iset (ns : List Int) : List Int := isort (dd ns)
theorem tsort_perm (nss : List (List Int)) : (tsort nss).Perm nss := List.mergeSort_perm _ _
theorem tsort_sorted (nss : List (List Int)) : (tsort nss).Pairwise fun a b => lxLt b a = false := by
  have h := List.pairwise_mergeSort (le := fun a b : List Int => !lxLt b a) (fun a b c h1 h2 => by
    simp only [Bool.not_eq_true'] at *
    cases e : lxLt c a with
    | false => rfl
    | true =>
      cases e2 : lxLt a b with
      | true => rw [lxLt_trans e e2] at h2; cases h2
      | false =>
        rw [lxLt_tri e2 h1] at e
        rw [e] at h2
        cases h2) (fun a b => by
    cases e : lxLt b a with
    | false => simp
    | true =>
      cases e2 : lxLt a b with
      | false => simp
      | true => have := lxLt_trans e e2; rw [lxLt_irr] at this; cases this) nss
  exact h.imp fun h => by simpa using h
theorem lex_unique : ∀ {a b : List (List Int)}, a.Perm b → a.Pairwise (fun x y => lxLt y x = false) → b.Pairwise (fun x y => lxLt y x = false) → a = b
  | [], b, p, _, _ => List.Perm.nil_eq p
  | x :: a, [], p, _, _ => absurd p.length_eq (by simp)
  | x :: a, y :: b, p, ha, hb => by
    have h1 : lxLt x y = false := by
      have : x ∈ y :: b := p.subset List.mem_cons_self
      rcases List.mem_cons.mp this with e | h
      · rw [e, lxLt_irr]
      · exact (List.pairwise_cons.mp hb).1 x h
    have h2 : lxLt y x = false := by
      have : y ∈ x :: a := p.symm.subset List.mem_cons_self
      rcases List.mem_cons.mp this with e | h
      · rw [e, lxLt_irr]
      · exact (List.pairwise_cons.mp ha).1 y h
    have e := lxLt_tri h1 h2
    subst e
    rw [lex_unique (List.perm_cons _ |>.mp p) (List.pairwise_cons.mp ha).2 (List.pairwise_cons.mp hb).2]
theorem iset_of {ns ns' : List Int} (h1 : ns'.Pairwise (· < ·)) (h2 : ∀ k, k ∈ ns' ↔ k ∈ ns) : ns' = iset ns := by
  refine sorted_unique (((List.perm_ext_iff_of_nodup (h1.imp fun h => by omega) (nodup_dd ns)).mpr fun k => by rw [h2, mem_dd]).trans (isort_perm _).symm) (h1.imp fun h => by omega) (isort_sorted _)
theorem tset_of {nss nss' : List (List Int)} (h0 : nss'.Nodup) (h1 : nss'.Pairwise fun a b => lxLt b a = false) (h2 : ∀ k, k ∈ nss' ↔ k ∈ nss) : nss' = tset nss :=
  lex_unique (((List.perm_ext_iff_of_nodup h0 (nodup_dd nss)).mpr fun k => by rw [h2, mem_dd]).trans (tsort_perm _).symm) h1 (tsort_sorted _)

section
variable {K : PySem.W.Frag} {W : Wt} {Δ : List Kd}
theorem rpA_tups {F : Addr → Prop} {H : Hp} : ∀ {xs : List V} {ds : List Dt} {nss : List (List Int)}, RpA K F H xs ds → allT ds = some nss → ∃ ts : List (Addr × List Int), xs = ts.map (fun p => V.ref p.1) ∧ ts.map (·.2) = nss ∧ ∀ p ∈ ts, SqT K H p.1 (p.2.map V.int)
  | _, _, _, .nil, e => by cases e; exact ⟨[], rfl, rfl, fun p hp => nomatch hp⟩
  | _, _, nss, .cons (d := d) (ds := ds) h r, e => by
    cases h with
    | @tup a ys es hs hr =>
      unfold allT at e
      cases ei : allI es with
      | none => rw [ei] at e; cases e
      | some ns =>
        rw [ei] at e
        cases et : allT ds with
        | none => rw [et] at e; cases e
        | some ms =>
          rw [et] at e
          cases e
          obtain ⟨ts, e1, e2, e3⟩ := rpA_tups r et
          refine ⟨(a, ns) :: ts, by rw [List.map_cons, e1], by rw [List.map_cons, e2], fun p hp => ?_⟩
          rcases List.mem_cons.mp hp with z | z
          · rw [z]
            rw [rp_ints hr ei] at hs
            exact hs
          · exact e3 p z
    | _ => cases e
theorem rpA_of_tups {F : Addr → Prop} {H : Hp} : ∀ ts : List (Addr × List Int), (∀ p ∈ ts, SqT K H p.1 (p.2.map V.int)) → RpA K F H (ts.map fun p => V.ref p.1) ((ts.map (·.2)).map encL)
  | [], _ => .nil
  | p :: ts, h => .cons (.tup (h p List.mem_cons_self) (rpA_ints _)) (rpA_of_tups ts fun q hq => h q (List.mem_cons_of_mem _ hq))
/-- none is empty, fewer than 64 -/
def okT0 (nss : List (List Int)) : Bool := nss.all (fun ns => !ns.isEmpty) && decide (nss.length < 64)
def hSortT : Dt → O Dt := fun d => match d with
  | .list xs => match allT xs with
    | some nss => if okT0 nss = true then .ok (.list ((tsort nss).map encL)) else .bad
    | none => .bad
  | _ => .bad
def hSortSetT : Dt → O Dt := fun d => match d with
  | .list xs => match allT xs with
    | some nss => if okT0 nss = true then .ok (.list ((tset nss).map encL)) else .bad
    | none => .bad
  | _ => .bad
def hSortSetI : Dt → O Dt := fun d => match d with
  | .list xs => match allI xs with
    | some ns => if ns.length < 64 then .ok (.list ((iset ns).map .int)) else .bad
    | none => .bad
  | _ => .bad
theorem okT0_ne {nss : List (List Int)} (h : okT0 nss = true) : (∀ ns ∈ nss, ns ≠ []) ∧ nss.length < 64 := by
  unfold okT0 at h
  rw [Bool.and_eq_true, List.all_eq_true, decide_eq_true_eq] at h
  exact ⟨fun ns hn e => by have := h.1 ns hn; rw [e] at this; simp at this, h.2⟩
theorem se_sortT {tA : TA} {gA : List Dt → O (List Dt)} {av fr : Bool} (ha : SA K W Δ tA av fr gA) : SE K W Δ (tCB (rSortL K) tA) (.new .l true) (gCB (one hSortT) gA) := fun f ρ σ H Q R q => by
  refine ha f ρ σ H _ R ?_
  unfold gCB at q
  cases e1 : gA ρ with
  | bad => rw [e1] at q; exact q
  | ex z => rw [e1] at q; exact q
  | ok ds =>
    rw [e1, bnd_ok] at q
    intro vs H1 s1 x1
    rcases one_eq (h := hSortT) (ds := ds) with ⟨d, rfl, e⟩ | e
    · rw [e] at q
      cases x1 with
      | cons x1 xr =>
        cases xr
        cases d with
        | list es =>
          unfold hSortT at q
          simp only at q
          cases ea : allT es with
          | none => rw [ea] at q; exact q.elim
          | some nss =>
            rw [ea] at q
            simp only at q
            by_cases hk : okT0 nss = true
            · rw [if_pos hk] at q
              obtain ⟨a, xs, rfl, hs, r⟩ := x1.sql
              obtain ⟨ts, rfl, rfl, h3⟩ := rpA_tups r ea
              obtain ⟨k1, k2⟩ := okT0_ne hk
              rw [List.length_map] at k2
              refine ⟨a, ts, rfl, hs, k2, fun p hp => ⟨h3 p hp, k1 _ (List.mem_map.mpr ⟨p, hp, rfl⟩)⟩, fun L' l pL pw nl => ?_⟩
              have e2 : tsort (ts.map (·.2)) = L'.map (·.2) := lex_unique ((tsort_perm _).trans (pL.map (·.2)).symm) (tsort_sorted _) (List.pairwise_map.mpr pw)
              rw [e2] at q
              exact q l _ (s1.free nl) (s1.trans (same_upd nl)) ⟨_, _, rfl, upd_same, rpA_of_tups L' fun p hp => sqt_same (same_upd nl) (h3 p (pL.mem_iff.mp hp))⟩
            · rw [if_neg hk] at q
              exact q.elim
        | _ => exact q.elim
    · rw [e] at q
      exact q.elim
theorem se_sortSetI {te : TE} {g : Gd} {av fr : Bool} (ha : SE K W Δ te (.v av fr) g) : SE K W Δ (tSortSetI K te) (.new .l true) (gUn hSortSetI g) := fun f ρ σ H Q R q => by
  refine ha f ρ σ H _ R ?_
  unfold gUn at q
  cases e1 : g ρ with
  | bad => rw [e1] at q; exact q
  | ex z => rw [e1] at q; exact q
  | ok d =>
    rw [e1, bnd_ok] at q
    intro v H1 s1 x1
    cases d with
    | list es =>
      unfold hSortSetI at q
      simp only at q
      cases ea : allI es with
      | none => rw [ea] at q; exact q.elim
      | some ns =>
        rw [ea] at q
        simp only at q
        by_cases hl : ns.length < 64
        · rw [if_pos hl] at q
          obtain ⟨c, xs, rfl, hs, r⟩ := x1.sql
          rw [rp_ints r ea] at hs
          refine ⟨c, ns, rfl, hs, hl, fun ns' p h1 h2 np => ?_⟩
          rw [← iset_of h1 h2] at q
          exact q p _ (s1.free np) (s1.trans (same_upd np)) ⟨_, _, rfl, upd_same, rpA_ints _⟩
        · rw [if_neg hl] at q
          exact q.elim
    | _ => exact q.elim
theorem se_sortSetT {te : TE} {g : Gd} {av fr : Bool} (ha : SE K W Δ te (.v av fr) g) : SE K W Δ (tSortSetT K te) (.new .l true) (gUn hSortSetT g) := fun f ρ σ H Q R q => by
  refine ha f ρ σ H _ R ?_
  unfold gUn at q
  cases e1 : g ρ with
  | bad => rw [e1] at q; exact q
  | ex z => rw [e1] at q; exact q
  | ok d =>
    rw [e1, bnd_ok] at q
    intro v H1 s1 x1
    cases d with
    | list es =>
      unfold hSortSetT at q
      simp only at q
      cases ea : allT es with
      | none => rw [ea] at q; exact q.elim
      | some nss =>
        rw [ea] at q
        simp only at q
        by_cases hk : okT0 nss = true
        · rw [if_pos hk] at q
          obtain ⟨c, xs, rfl, hs, r⟩ := x1.sql
          obtain ⟨ts, rfl, rfl, h3⟩ := rpA_tups r ea
          obtain ⟨k1, k2⟩ := okT0_ne hk
          rw [List.length_map] at k2
          refine ⟨c, ts, rfl, hs, fun p hp => ⟨h3 p hp, k1 _ (List.mem_map.mpr ⟨p, hp, rfl⟩)⟩, k2, fun L p h1 h2 h4 h5 np => ?_⟩
          have e2 : L.map (·.2) = tset (ts.map (·.2)) := tset_of h4 (List.pairwise_map.mpr h5) fun k => ⟨fun hk => by
            obtain ⟨y, hy, e⟩ := List.mem_map.mp hk
            exact List.mem_map.mpr ⟨y, h1 y hy, e⟩, fun hk => by
            obtain ⟨y, hy, e⟩ := List.mem_map.mp hk
            rw [← e]
            exact h2 y hy⟩
          rw [← e2] at q
          exact q p _ (s1.free np) (s1.trans (same_upd np)) ⟨_, _, rfl, upd_same, rpA_of_tups L fun y hy => sqt_same (same_upd np) (h3 y (h1 y hy))⟩
        · rw [if_neg hk] at q
          exact q.elim
    | _ => exact q.elim
/-- tuple(range) -/
def gTpI (gI : List Dt → O (List Dt)) : Gd := fun ρ => bnd (gI ρ) fun ds => if ds.length ≤ 100000 then .ok (.tuple ds) else .bad
theorem se_trng1 {te : TE} {g : Gd} {av fr : Bool} (ha : SE K W Δ te (.v av fr) g) : SE K W Δ (tTupRg (tRg1 te)) (.v true true) (gTpI (gRng1 (gCons g gNil))) := fun f ρ σ H Q R q => by
  refine ha f ρ σ H _ R ?_
  unfold gTpI gRng1 gCons gNil at q
  cases e1 : g ρ with
  | bad => rw [e1] at q; exact q
  | ex z => rw [e1] at q; exact q
  | ok d =>
    rw [e1, bnd_ok, bnd_ok, bnd_ok] at q
    intro v H1 s1 x1
    cases er : rng1 [d] with
    | none => rw [er] at q; exact q.elim
    | some p =>
      rw [er] at q
      unfold rng1 at er
      split at er
      · split at er
        · rename_i hj
          obtain ⟨e, e'⟩ := List.cons.inj ‹[d] = _›
          rename_i j h2
          cases er
          subst e
          rw [rpInt x1]
          simp only [bnd_ok] at q
          by_cases l : (rangeD 0 j).length ≤ 100000
          · rw [if_pos l] at q
            rw [rangeD_len] at l
            refine ⟨j, rfl, ⟨by omega, by omega, hj.1, hj.2, by omega⟩, fun p np => q (.ref p) _ (s1.trans (same_upd np)) (.tup (.inl (.inl upd_same)) ?_)⟩
            exact rpA_mapInt _ _
          · rw [if_neg l] at q
            exact q.elim
        · cases er
      · cases er
variable {X : Cx} {a e : Expr} {es : List Expr} {te : TE} {tA : TA} {g : Gd} {gA : List Dt → O (List Dt)} {av fr : Bool} {p p2 q pos : Pos}
theorem x_sortT {x : Str} (hm : X.mg x = none) (h : AD X K W Δ (e :: es) tA av fr gA) (hv : bootBuiltins x = some (.builtin "sorted") := by decide +kernel) (hg : Gl X x := by rfl) (hn : x ≠ "__name__" := by decide) (hdb : (x == ("__debug__" : Str)) = false := by decide)
    (he : starEach (e :: es) X.env = (false, eval e X.env) :: starEach es X.env := by rfl) (hpl : (backTo pos (starEach es X.env)).any (·.1) = false := by rfl) :
    PD X K W Δ (.Call (.Name x p) (e :: es) [] pos) (tCB (rSortL K) tA) (.new .l true) (gCB (one hSortT) gA) :=
  ⟨pe_callB (by have q := cr_sortL (X := X); rw [h.hK] at q; exact q) hg hm hv h.pa hn hdb he hpl, h.hK, se_sortT h.sa⟩
theorem x_sortSetI (hm : X.mg "sorted" = none) (hm2 : X.mg "set" = none) (h : PD X K W Δ a te (.v av fr) g) (hc : X.calm = true := by rfl) (hg : Gl X "sorted" := by rfl) (hg2 : Gl X "set" := by rfl) (na : starEach [a] X.env = (false, eval a X.env) :: starEach [] X.env := by rfl) :
    PD X K W Δ (.Call (.Name "sorted" p) [.Call (.Name "set" p2) [a] [] q] [] pos) (tSortSetI K te) (.new .l true) (gUn hSortSetI g) := ⟨by have w := pe_sortSetI (X := X) (p := p) (p2 := p2) (q := q) (pos := pos) hc hg hm hg2 hm2 h.pe na; rw [h.hK] at w; exact w, h.hK, se_sortSetI h.se⟩
theorem x_sortSetT {kk : Nat} (hr : Room kk X.A) (hm : X.mg "sorted" = none) (hm2 : X.mg "set" = none) (h : PD X K W Δ a te (.v av fr) g) (hc : X.calm = true := by rfl) (hg : Gl X "sorted" := by rfl) (hg2 : Gl X "set" := by rfl) (na : starEach [a] X.env = (false, eval a X.env) :: starEach [] X.env := by rfl) :
    PD X K W Δ (.Call (.Name "sorted" p) [.Call (.Name "set" p2) [a] [] q] [] pos) (tSortSetT K te) (.new .l true) (gUn hSortSetT g) := ⟨by have w := pe_sortSetT (X := X) (p := p) (p2 := p2) (q := q) (pos := pos) hc hr.units hg hm hg2 hm2 h.pe na; rw [h.hK] at w; exact w, h.hK, se_sortSetT h.se⟩
theorem x_trng1 {pos2 : Pos} (hm : X.mg "tuple" = none) (hm2 : X.mg "range" = none) (h : PD X K W Δ a te (.v av fr) g) (hc : X.calm = true := by rfl) (hg : Gl X "tuple" := by rfl) (hg2 : Gl X "range" := by rfl)
    (na : starEach [a] X.env = (false, eval a X.env) :: starEach [] X.env := by rfl) (na2 : starEach [.Call (.Name "range" p2) [a] [] pos2] X.env = (false, eval (.Call (.Name "range" p2) [a] [] pos2) X.env) :: starEach [] X.env := by rfl) :
    PD X K W Δ (.Call (.Name "tuple" p) [.Call (.Name "range" p2) [a] [] pos2] [] pos) (tTupRg (tRg1 te)) (.v true true) (gTpI (gRng1 (gCons g gNil))) := ⟨pe_tupRg hc hg hm (prg_1 hg2 hm2 h.pe na) na2, h.hK, se_trng1 h.se⟩
end
end Sim
end T_SimU

section T_SimV
set_option Elab.async false
set_option linter.all false
set_option maxRecDepth 100000
/-! SimV: {k: v}, d.get(k), is None, tuple + tuple, sorted(set(tuple of ints)). -/
namespace Sim
open PySem PySem.Spec L2
open PyProof.Rows hiding St

section
variable {K : PySem.W.Frag} {F : Addr → Prop} {H : Hp} {p : Addr} {kvs : List (Key × V)}
mutual
theorem Rp.noD (hp : H p = some (.dK kvs)) : ∀ {v : V} {d : Dt}, Rp K F H v d → Rp K (fun a => F a ∧ a ≠ p) H v d
  | _, _, .non => .non
  | _, _, .bl b => .bl b
  | _, _, .int i => .int i
  | _, _, .str x => .str x
  | _, _, .lst h fa r => .lst h ⟨fa, fun z => by rw [z, hp] at h; cases h⟩ (RpA.noD hp r)
  | _, _, .fz h r => .fz h (RpA.noD hp r)
  | _, _, .tup h r => .tup h (RpA.noD hp r)
theorem RpA.noD (hp : H p = some (.dK kvs)) : ∀ {vs : List V} {ds : List Dt}, RpA K F H vs ds → RpA K (fun a => F a ∧ a ≠ p) H vs ds
  | _, _, .nil => .nil
  | _, _, .cons h r => .cons (Rp.noD hp h) (RpA.noD hp r)
end
end

/-- {k: v} -/
def gDNew1 (gk gv : Gd) : Gd := fun ρ => bnd (gk ρ) fun kd => match keyOf kd with
  | some k => bnd (gv ρ) fun v => .ok (.dict [(keyD k, v)])
  | none => .bad
/-- d.get(k) -/
def gDGetN (i : Nat) (gk : Gd) : Gd := fun ρ => match dAt ρ i with
  | some es => bnd (gk ρ) fun kd => (match keyOf kd with
    | some k => .ok ((dGet es k).getD .none)
    | none => .bad)
  | none => .bad
section
variable {K : PySem.W.Frag} {W : Wt} {Δ : List Kd} {tk tv ti ta tb : TE} {gk gv ga gb g : Gd} {fr fr' av : Bool} {i : Nat}
theorem se_dnew1 (hk : SE K W Δ tk (.v av fr') gk) (hv : SE K W Δ tv (.v true fr) gv) : SE K W Δ (tDisp [(tk, tv)]) (.new .dk fr) (gDNew1 gk gv) := fun f ρ σ H Q R q => by
  intro p np
  have s0 : Same H (upd H p (.dK [])) := same_upd np
  refine hk f ρ σ _ _ (R.mono s0) ?_
  unfold gDNew1 at q
  cases e1 : gk ρ with
  | bad => rw [e1] at q; exact q
  | ex z => rw [e1] at q; exact fun H' s => q H' (s0.trans s)
  | ok kd =>
    rw [e1, bnd_ok] at q
    intro kv H1 s1 xk
    refine hv f ρ σ H1 _ (R.mono (s0.trans s1)) ?_
    cases ek : keyOf kd with
    | none => rw [ek] at q; exact q.elim
    | some k =>
      rw [ek] at q
      dsimp only at q
      cases e2 : gv ρ with
      | bad => rw [e2] at q; exact q
      | ex z => rw [e2] at q; exact fun H' s => q H' ((s0.trans s1).trans s)
      | ok d =>
        rw [e2, bnd_ok] at q
        intro v H2 s2 x2
        have s12 := s1.trans s2
        have hp : H2 p = some (.dK []) := s12 _ _ upd_same
        have sf : Same H (upd H2 p (.dK [(k, v)])) := fun b o e => by
          rw [upd_ne (ne_of_none e np)]
          exact (s0.trans s12) b o e
        refine ⟨hp, [(k, v)], by rw [kV_keyOf xk ek]; rfl, by show 1 ≤ 15; omega, ?_⟩
        have em : mergeK [] [(k, v)] = [(k, v)] := rfl
        rw [em]
        refine q p _ np sf ⟨_, _, rfl, upd_same, .cons ?_ .nil⟩
        exact Rp.updM hp trivial (fun a fa => fa.2) (Rp.noD hp x2)
theorem se_dgetN (hk : Δ[i]? = some (.own .dk fr)) (h : SE K W Δ ti (.v av fr') gk) : SE K W Δ (tDGet1 (tVar i) ti) (.v true fr) (gDGetN i gk) := fun f ρ σ H Q r q => by
  unfold gDGetN at q
  cases ed : dAt ρ i with
  | none => rw [ed] at q; exact q.elim
  | some es =>
    rw [ed] at q
    obtain ⟨p, kvs, g1, g3, g4, g5⟩ := dk_own r hk ed
    refine ⟨_, g1, p, rfl, .inl ⟨kvs, .inl g4⟩, h f ρ σ H _ r ?_⟩
    simp only at q
    cases e2 : gk ρ with
    | bad => rw [e2] at q; exact q
    | ex z => rw [e2] at q; exact q
    | ok kd =>
      rw [e2, bnd_ok] at q
      intro kv H1 s1 xk
      cases ek : keyOf kd with
      | none => rw [ek] at q; exact q.elim
      | some k =>
        rw [ek] at q
        simp only at q
        rw [kV_keyOf xk ek]
        refine ⟨valV kvs k, DGet.k (s1 _ _ g4), ?_⟩
        rcases g5.get k with ⟨e1, e⟩ | ⟨v, d, e1, e, x⟩
        · rw [e1]
          rw [e] at q
          exact q .non H1 s1 .non
        · rw [e1]
          rw [e] at q
          exact q v H1 s1 (x.same s1)
/-- tuple + tuple -/
def hCatT : Dt → Dt → O Dt := fun d e => match d, e with
  | .tuple xs, .tuple ys => if xs.length + ys.length ≤ 100000 then .ok (.tuple (xs ++ ys)) else .bad
  | _, _ => .bad
theorem se_catT (ha : SE K W Δ ta (.v av fr) ga) (hb : SE K W Δ tb (.v av fr) gb) : SE K W Δ (tOp (rCatA K) ta tb) (.v av fr) (gOp hCatT ga gb) := fun f ρ σ H Q R q => by
  refine ha f ρ σ H _ R ?_
  unfold gOp at q
  cases e1 : ga ρ with
  | bad => rw [e1] at q; exact q
  | ex z => rw [e1] at q; exact q
  | ok d =>
    rw [e1, bnd_ok] at q
    intro v H1 s1 x1
    refine hb f ρ σ H1 _ (R.mono s1) ?_
    cases e2 : gb ρ with
    | bad => rw [e2] at q; exact q
    | ex z => rw [e2] at q; exact fun H' s => q H' (s1.trans s)
    | ok d2 =>
      rw [e2, bnd_ok] at q
      intro v2 H2 s2 x2
      have s12 := s1.trans s2
      unfold hCatT at q
      split at q
      · split at q
        · rename_i hz
          obtain ⟨a, xs, rfl, hs, r⟩ := (x1.same s2).sqt
          obtain ⟨b, ys, rfl, hs2, r2⟩ := x2.sqt
          refine ⟨a, b, xs, ys, rfl, rfl, hs, hs2, sz_le (by rw [r.length, r2.length]; exact hz), fun e => ?_, fun _ e => ?_, fun _ _ p np => ?_⟩
          · subst e
            cases r
            exact q _ H2 s12 (.tup hs2 r2)
          · subst e
            cases r2
            refine q _ H2 s12 (.tup hs ?_)
            rw [List.append_nil]
            exact r
          · exact q _ _ (s12.trans (same_upd np)) (.tup (.inl (.inl upd_same)) ((r.append r2).same (same_upd np)))
        · exact q.elim
      · exact q.elim
end
/-- sorted(set(t)), t a tuple of ints -/
def tSortSetU (K : PySem.W.Frag) (te : TE) : TE := fun σ H Q => te σ H fun x H1 => ∃ (l : Addr) (ns : List Int), x = V.ref l ∧ SqT K H1 l (ns.map V.int) ∧ ns.length < 64 ∧
  ∀ (ns' : List Int) (p : Addr), ns'.Pairwise (· < ·) → (∀ k, k ∈ ns' ↔ k ∈ ns) → H1 p = none → Q (.ref p) (upd H1 p (.lst (ns'.map V.int)))
def hSortSetU : Dt → O Dt := fun d => match d with
  | .tuple xs => match allI xs with
    | some ns => if ns.length < 64 then .ok (.list ((iset ns).map .int)) else .bad
    | none => .bad
  | _ => .bad
section
variable {X : Cx} {a : Expr} {ta te : TE} {p p2 q pos : Pos}
theorem pe_sortSetU (hc : X.calm = true) (hg : Gl X "sorted") (hm : X.mg "sorted" = none) (hg2 : Gl X "set") (hm2 : X.mg "set" = none) (ha : PE X a ta)
    (na : starEach [a] X.env = (false, eval a X.env) :: starEach [] X.env := by rfl) : PE X (.Call (.Name "sorted" p) [.Call (.Name "set" p2) [a] [] q] [] pos) (tSortSetU X.K ta) := by
  refine ⟨fun pins s σ H Q I h => ?_⟩
  refine Call_ (ld_blt I hg hm (by decide +kernel : bootBuiltins "sorted" = some (.builtin "sorted")) ?_)
  refine PyProof.Rows.callWith_builtin1 (PyProof.Rows.args_cons ?_ rfl) rfl rfl
  refine Call_ (ld_blt I hg2 hm2 PyProof.Rows.boot_set ?_)
  refine PyProof.Rows.callWith_type1 (PyProof.Rows.args_cons (thn (ha.run pins s σ H _ I h) fun v s1 ⟨x, H1, I1, r1, q1⟩ => PyProof.Rows.args_nil ?_) na) na rfl
  obtain ⟨l, ns, rfl, hq, h1, q1⟩ := q1
  cases r1
  obtain ⟨its, r, pl, hz⟩ := I1.tuple hq
  refine call_set_tupI ns (I1.ok.hd hc) pl (by simpa using r.ints) (by unfold scanBound; omega) fun h' tk c hS hcl hk => ?_
  have I2 : Inv X pins σ H1 { s1 with heap := h', toks := tk } := I1.kept hk
  refine PyProof.Rows.args_nil ?_
  refine sorted_set (s := { s1 with heap := h', toks := tk }) hS (I1.ok.hd hc) (by omega) fun s' p' out c' ns' k g o hp hgt hI hpw hmem hlen => ?_
  have hn : H1 p' = none := I2.hok.fresh hp
  have hle : (ns'.map V.int).length ≤ sizeLine := by rw [List.length_map, sizeLine_eq]; omega
  have J : Inv X pins σ (upd H1 p' (.lst (ns'.map V.int))) { ({ s1 with heap := h', toks := tk } : Shared) with heap := s'.heap, gens := s'.gens, drawn := s'.drawn, toks := s'.toks } :=
    I2.call (ch := []) (Un.laid k hp hn) (I2.hok.laid k hp ⟨hle, out.toList, c', vals_of_ints hI, hgt⟩) (by rw [g]; exact I2.bare) (fun _ z => nomatch z)
  have e : s' = { ({ s1 with heap := h', toks := tk } : Shared) with heap := s'.heap, gens := s'.gens, drawn := s'.drawn, toks := s'.toks } := by
    cases s'
    cases s1
    cases o
    rfl
  rw [e]
  exact ⟨.ref p', _, J, rfl, q1 ns' p' hpw (fun k => by rw [hmem k, decide_eq_true_eq]) hn⟩
end
section
variable {X : Cx} {K : PySem.W.Frag} {W : Wt} {Δ : List Kd} {a b e : Expr} {te ti tk tv ta tb : TE} {g gk gv ga gb : Gd} {fr fr' av : Bool} {pos p p2 q apos cpos : Pos} {x : Str} {m : Nat}
theorem se_sortSetU (ha : SE K W Δ te (.v av fr) g) : SE K W Δ (tSortSetU K te) (.new .l true) (gUn hSortSetU g) := fun f ρ σ H Q R q => by
  refine ha f ρ σ H _ R ?_
  unfold gUn at q
  cases e1 : g ρ with
  | bad => rw [e1] at q; exact q
  | ex z => rw [e1] at q; exact q
  | ok d =>
    rw [e1, bnd_ok] at q
    intro v H1 s1 x1
    cases d with
    | tuple es =>
      unfold hSortSetU at q
      simp only at q
      cases ea : allI es with
      | none => rw [ea] at q; exact q.elim
      | some ns =>
        rw [ea] at q
        simp only at q
        by_cases hl : ns.length < 64
        · rw [if_pos hl] at q
          obtain ⟨c, xs, rfl, hs, r⟩ := x1.sqt
          rw [rp_ints r ea] at hs
          refine ⟨c, ns, rfl, hs, hl, fun ns' p h1 h2 np => ?_⟩
          rw [← iset_of h1 h2] at q
          exact q p _ (s1.free np) (s1.trans (same_upd np)) ⟨_, _, rfl, upd_same, rpA_ints _⟩
        · rw [if_neg hl] at q
          exact q.elim
    | _ => exact q.elim
theorem x_sortSetU (hm : X.mg "sorted" = none) (hm2 : X.mg "set" = none) (h : PD X K W Δ a te (.v av fr) g) (hc : X.calm = true := by rfl) (hg : Gl X "sorted" := by rfl) (hg2 : Gl X "set" := by rfl) (na : starEach [a] X.env = (false, eval a X.env) :: starEach [] X.env := by rfl) :
    PD X K W Δ (.Call (.Name "sorted" p) [.Call (.Name "set" p2) [a] [] q] [] pos) (tSortSetU K te) (.new .l true) (gUn hSortSetU g) := ⟨by have w := pe_sortSetU (X := X) (p := p) (p2 := p2) (q := q) (pos := pos) hc hg hm hg2 hm2 h.pe na; rw [h.hK] at w; exact w, h.hK, se_sortSetU h.se⟩
theorem x_dnew1 (hk : PD X K W Δ a tk (.v av fr') gk) (hv : PD X K W Δ b tv (.v true fr) gv) : PD X K W Δ (.Dict [some a] [b] pos) (tDisp [(tk, tv)]) (.new .dk fr) (gDNew1 gk gv) :=
  ⟨pe_disp (pps_cons hk.pe hv.pe pps_nil) rfl rfl (fun h => nomatch h) (by show 1 ≤ 15; omega), hk.hK, se_dnew1 hk.se hv.se⟩
theorem x_dgetN (i : Nat) (hr : Room m X.A) (h : PD X K W Δ e te (.v av fr') g) (hk : Δ[i]? = some (.own .dk fr) := by rfl) (hv : Vis X.env.scope x := by first | exact Or.inl rfl | exact Or.inr (Or.inl rfl) | exact Or.inr (Or.inr rfl)) (hN : X.N[i]? = some x := by rfl) (hd : (x == ("__debug__" : Str)) = false := by decide) (hcd : (x == ("__classdict__" : Str)) = false := by decide)
    (m1 : attributeBase (.Name x p) "get" X.env (eval (.Name x p) X.env) = eval (.Name x p) X.env := by rfl)
    (m2 : ((backTo cpos (starEach [e] X.env)).all (fun x => !x.1) && (backToKw cpos (keywordEach [] X.env)).all (fun x => x.1.isSome) && decide (([e] : List Expr).length + ([] : List Keyword).length + (if ([] : List Keyword).isEmpty then 0 else 1) < 30)) = true := by rfl)
    (m3 : (apos.endLine == cpos.line) = true := by rfl) (m4 : backTo cpos (starEach [e] X.env) = [(false, eval e X.env)] := by rfl) :
    PD X K W Δ (.Call (.Attribute (.Name x p) "get" apos) [e] [] cpos) (tDGet1 (tVar i) te) (.v true fr) (gDGetN i g) := ⟨pe_dget1 (by have := hr.un; omega) (pe_var hN hv hd hcd) h.pe ⟨m1, m2, m3, m4⟩, h.hK, se_dgetN hk h.se⟩
theorem x_catT (ha : PD X K W Δ a ta (.v av fr) ga) (hb : PD X K W Δ b tb (.v av fr) gb) : PD X K W Δ (.BinOp a .Add b pos) (tOp (rCatA K) ta tb) (.v av fr) (gOp hCatT ga gb) :=
  ⟨pe_op (by have q := op_catA (X := X); rw [ha.hK] at q; exact q) ha.pe hb.pe, ha.hK, se_catT ha.se hb.se⟩
end
end Sim
end T_SimV

section T_FamA
set_option linter.all false
namespace FamA
open PySem Sim
def g_l_mixed : Gs := gSeqS (gSet 2 (gOp hMod (gOp hMul (gOp hAdd (gOp hAdd (gOp hMod (gVar 0) (gC (.int (2147483629)))) (gOp hMul (gC (.int (7919))) (gVar 1))) (gC (.int (11)))) (gC (.int (48271)))) (gC (.int (2147483647))))) (gSeqS (gSet 2 (gOp hMod (gOp hAdd (gOp hMod (gOp hMul (gVar 2) (gVar 2)) (gC (.int (2147483629)))) (gOp hMul (gC (.int (104729))) (gVar 1))) (gC (.int (2147483629))))) (gRet (gOp hMod (gOp hMul (gVar 2) (gC (.int (39373)))) (gC (.int (2147483647))))))
def f_l_mixed : List Dt → O Dt := fnN 3 g_l_mixed
def g_l_numbers_L1 : Gs := gSeqS (gSet 6 (gOp hAdd (gOp hMul (gVar 6) (gC (.int (2147483647)))) (gCallN 2 f_l_mixed (gCons (gVar 0) (gCons (gOp hAdd (gOp hMul (gC (.int (8))) (gVar 5)) (gVar 7)) (gNil)))))) (gSet 7 (gOp hAdd (gVar 7) (gC (.int (1)))))
def g_l_numbers_T1 : List Dt → O Bool := gTest (gOp hLt (gOp hMul (gVar 7) (gC (.int (30)))) (gOp hAdd (gUn hBits (gVar 2)) (gC (.int (8)))))
def g_l_numbers_L2 : Gs := gSeqS (gSet 6 (gVar 4)) (gSeqS (gIfS (gTest (gOp hGt (gVar 4) (gC (.int (0))))) (gSet 4 (gOp hDiv (gVar 4) (gVar 2))) (gSeqS (gSet 6 (gC (.int (0)))) (gSeqS (gSet 7 (gC (.int (0)))) (gWhile g_l_numbers_T1 g_l_numbers_L1 100)))) (gApp 3 (gOp hMod (gVar 6) (gVar 2))))
def g_l_numbers : Gs := gSeqS (gSet 3 (gLst (gNil))) (gSeqS (gSet 4 (gOp hSub (gVar 0) (gOp hPow (gC (.int (10))) (gC (.int (18)))))) (gSeqS (gFor (gRng1 (gCons (gVar 1) (gNil))) (tgN 5) g_l_numbers_L2) (gRet (gVar 3))))
def f_l_numbers : List Dt → O Dt := fnL 8 g_l_numbers
def g_l_ends : Gs := gSeqS (gSet 4 (gOp hMod (gVar 2) (gVar 0))) (gSeqS (gIfS (gTest (gOp hEq (gVar 1) (gC (.int (0))))) (gRet (gTup (gCons (gVar 4) (gCons (gOp hMod (gVar 3) (gVar 0)) (gNil))))) (gNext)) (gSeqS (gIfS (gTest (gOp hEq (gVar 1) (gC (.int (1))))) (gRet (gTup (gCons (gOp hMod (gVar 2) (gCB hMin2 (gCons (gVar 0) (gCons (gC (.int (3))) (gNil))))) (gCons (gOp hMod (gVar 3) (gCB hMin2 (gCons (gVar 0) (gCons (gC (.int (2))) (gNil))))) (gNil))))) (gNext)) (gSeqS (gIfS (gTest (gOp hEq (gVar 1) (gC (.int (2))))) (gRet (gTup (gCons (gVar 4) (gCons (gOp hMod (gOp hAdd (gOp hAdd (gVar 4) (gC (.int (1)))) (gOp hDiv (gOp hMod (gVar 3) (gC (.int (5)))) (gC (.int (4))))) (gVar 0)) (gNil))))) (gNext)) (gRet (gTup (gCons (gVar 4) (gCons (gOp hMod (gOp hAdd (gVar 4) (gOp hMul (gC (.int (2))) (gOp hMod (gVar 3) (gVar 0)))) (gVar 0)) (gNil))))))))
def f_l_ends : List Dt → O Dt := fnN 5 g_l_ends
def g_l_record_L1 : Gs := gSeqS (gAsg (gCallN 4 f_l_ends (gCons (gVar 2) (gCons (gOp hMod (gOp hIx (gVar 0) (gC (.int (3)))) (gC (.int (4)))) (gCons (gOp hIx (gVar 0) (gOp hAdd (gC (.int (4))) (gOp hMul (gC (.int (3))) (gVar 7)))) (gCons (gOp hIx (gVar 0) (gOp hAdd (gC (.int (5))) (gOp hMul (gC (.int (3))) (gVar 7)))) (gNil)))))) (tgT (tgCons (tgN 8) (tgCons (tgN 9) (tgNil))))) (gSeqS (gApp 6 (gTup (gCons (gVar 5) (gCons (gCB hMin2 (gCons (gVar 8) (gCons (gVar 9) (gNil)))) (gCons (gCB hMax2 (gCons (gVar 8) (gCons (gVar 9) (gNil)))) (gNil)))))) (gSet 5 (gOp hAdd (gOp hAdd (gVar 5) (gC (.int (1)))) (gOp hMod (gOp hIx (gVar 0) (gOp hAdd (gC (.int (6))) (gOp hMul (gC (.int (3))) (gVar 7)))) (gVar 4)))))
def g_l_record : Gs := gSeqS (gSet 2 (gOp hAdd (gC (.int (1))) (gOp hMod (gOp hIx (gVar 0) (gC (.int (0)))) (gC (.int (6)))))) (gSeqS (gIfS (gTest (gOp hEq (gOp hMod (gOp hDiv (gOp hIx (gVar 0) (gC (.int (0)))) (gC (.int (6)))) (gC (.int (8)))) (gC (.int (1))))) (gSet 2 (gOp hAdd (gC (.int (7))) (gOp hMod (gOp hDiv (gOp hIx (gVar 0) (gC (.int (0)))) (gC (.int (48)))) (gC (.int (4)))))) (gNext)) (gSeqS (gSet 3 (gOp hMod (gOp hIx (gVar 0) (gC (.int (1)))) (gC (.int (13))))) (gSeqS (gIfS (gTest (gOp hEq (gOp hMod (gOp hDiv (gOp hIx (gVar 0) (gC (.int (1)))) (gC (.int (13)))) (gC (.int (8)))) (gC (.int (1))))) (gSet 3 (gOp hAdd (gC (.int (13))) (gOp hMod (gOp hDiv (gOp hIx (gVar 0) (gC (.int (1)))) (gC (.int (104)))) (gC (.int (48)))))) (gNext)) (gSeqS (gSet 4 (gOp hIx (gLst (gCons (gC (.int (1))) (gCons (gC (.int (4))) (gCons (gOp hPow (gC (.int (10))) (gC (.int (28)))) (gNil))))) (gOp hMod (gOp hIx (gVar 0) (gC (.int (2)))) (gC (.int (3)))))) (gSeqS (gSet 5 (gOp hIx (gLst (gCons (gC (.int (0))) (gCons (gOp hMod (gOp hDiv (gOp hIx (gVar 0) (gC (.int (2)))) (gC (.int (12)))) (gC (.int (100)))) (gCons (gOp hMod (gOp hIx (gVar 0) (gC (.int (3)))) (gOp hPow (gC (.int (10))) (gC (.int (29))))) (gNil))))) (gOp hMod (gOp hDiv (gOp hIx (gVar 0) (gC (.int (2)))) (gC (.int (3)))) (gC (.int (3)))))) (gSeqS (gSet 6 (gLst (gNil))) (gSeqS (gFor (gRng1 (gCons (gCB hMin3 (gCons (gVar 3) (gCons (gVar 1) (gCons (gOp hDiv (gOp hSub (gCB hLen (gCons (gVar 0) (gNil))) (gC (.int (4)))) (gC (.int (3)))) (gNil))))) (gNil))) (tgN 7) g_l_record_L1) (gRet (gTup (gCons (gVar 2) (gCons (gVar 6) (gNil))))))))))))
def f_l_record : List Dt → O Dt := fnN 10 g_l_record
end FamA
end T_FamA

section T_FamAP
set_option linter.all false
set_option maxRecDepth 100000
namespace FamA
open PySem Sim

abbrev B30 : Int := 1000000000000000000000000000000
theorem mixed_ok (cell k : Int) : ∃ z, f_l_mixed [.int cell, .int k] = .ok (.int z) ∧ 0 ≤ z ∧ z < 2147483647 := by
  unfold f_l_mixed fnN g_l_mixed
  simp (disch := omega) only [bnd_ok, gVar_def, gC_def, gOp_def, gUn_def, gNil_def, gCons_def, gIf_def, gTest_def, gNot_def, gAnd_def, gOr_def, gAndV_def, gOrV_def, gNotV_def, gCB_def, asB_b, hAdd_i, hSub_i, hLt_i, hLe_i, hGt_i, hGe_i, hMul_r, hMul_l, hMod_i, hDiv_s, hBand_i, hShr_i, hPow_10_18, hPow_10_27, hPow_10_28, hPow_10_29, hPow_10_30, hEq_i, hNe_i, hLen_l, hLen_t, hMin2_i, hMax2_i, hMin3_i, hInt1_b, hInt1_i, hBits_i, hListOf_l, hListOf_t, hTupOf_l, hTupOf_t, gSeqS_def, gSet_def, gRet_def, gIfS_def, gNext_def, gTup_def, gLst_def, List.getElem?_cons_zero, List.getElem?_cons_succ, List.set_cons_zero, List.set_cons_succ, List.length_cons, List.length_nil, Nat.zero_add, Nat.reduceAdd, Nat.reduceLeDiff, Nat.reduceSub, Nat.reduceMul, if_true, if_false, Bool.false_eq_true, List.replicate_succ, List.replicate_zero, List.cons_append, List.nil_append, tgN, tgT, tgCons, tgNil, Int.reducePow, Int.reduceAdd, Int.reduceSub, Int.reduceMul, decide_true, decide_false, Bool.not_true, Bool.not_false, gChain_def, hIsa_int, hIsa_intb, hIsa_list, hIsa_tuple, gDrop_def]
  exact ⟨_, rfl, by omega, by omega⟩
theorem ends_ok (n kind one other : Int) (hn : 1 ≤ n) : ∃ a b, f_l_ends [.int n, .int kind, .int one, .int other] = .ok (.tuple [.int a, .int b]) ∧ 0 ≤ a ∧ a < n ∧ 0 ≤ b ∧ b < n := by
  unfold f_l_ends fnN g_l_ends
  have m0 := fun x : Int => Int.emod_nonneg x (show n ≠ 0 by omega)
  have m1 := fun x : Int => Int.emod_lt_of_pos x (show 0 < n by omega)
  by_cases h0 : kind = 0
  · subst h0
    simp (disch := omega) only [bnd_ok, gVar_def, gC_def, gOp_def, gUn_def, gNil_def, gCons_def, gIf_def, gTest_def, gNot_def, gAnd_def, gOr_def, gAndV_def, gOrV_def, gNotV_def, gCB_def, asB_b, hAdd_i, hSub_i, hLt_i, hLe_i, hGt_i, hGe_i, hMul_r, hMul_l, hMod_i, hDiv_s, hBand_i, hShr_i, hPow_10_18, hPow_10_27, hPow_10_28, hPow_10_29, hPow_10_30, hEq_i, hNe_i, hLen_l, hLen_t, hMin2_i, hMax2_i, hMin3_i, hInt1_b, hInt1_i, hBits_i, hListOf_l, hListOf_t, hTupOf_l, hTupOf_t, gSeqS_def, gSet_def, gRet_def, gIfS_def, gNext_def, gTup_def, gLst_def, List.getElem?_cons_zero, List.getElem?_cons_succ, List.set_cons_zero, List.set_cons_succ, List.length_cons, List.length_nil, Nat.zero_add, Nat.reduceAdd, Nat.reduceLeDiff, Nat.reduceSub, Nat.reduceMul, if_true, if_false, Bool.false_eq_true, List.replicate_succ, List.replicate_zero, List.cons_append, List.nil_append, tgN, tgT, tgCons, tgNil, Int.reducePow, Int.reduceAdd, Int.reduceSub, Int.reduceMul, decide_true, decide_false, Bool.not_true, Bool.not_false, gChain_def, hIsa_int, hIsa_intb, hIsa_list, hIsa_tuple, gDrop_def, beq_self_eq_true]
    exact ⟨_, _, rfl, m0 _, m1 _, m0 _, m1 _⟩
  · have e0 : (kind == 0) = false := beq_eq_false_iff_ne.mpr h0
    by_cases h1 : kind = 1
    · subst h1
      have q3 : 0 < (if (3 : Int) < n then 3 else n) := by split <;> omega
      have q2 : 0 < (if (2 : Int) < n then 2 else n) := by split <;> omega
      have q3' : (if (3 : Int) < n then 3 else n) ≤ n := by split <;> omega
      have q2' : (if (2 : Int) < n then 2 else n) ≤ n := by split <;> omega
      have p0 := Int.emod_nonneg one (show (if (3 : Int) < n then 3 else n) ≠ 0 by omega)
      have p1 := Int.emod_lt_of_pos one q3
      have p2 := Int.emod_nonneg other (show (if (2 : Int) < n then 2 else n) ≠ 0 by omega)
      have p3 := Int.emod_lt_of_pos other q2
      simp (disch := first | assumption | omega) only [bnd_ok, gVar_def, gC_def, gOp_def, gUn_def, gNil_def, gCons_def, gIf_def, gTest_def, gNot_def, gAnd_def, gOr_def, gAndV_def, gOrV_def, gNotV_def, gCB_def, asB_b, hAdd_i, hSub_i, hLt_i, hLe_i, hGt_i, hGe_i, hMul_r, hMul_l, hMod_i, hDiv_s, hBand_i, hShr_i, hPow_10_18, hPow_10_27, hPow_10_28, hPow_10_29, hPow_10_30, hEq_i, hNe_i, hLen_l, hLen_t, hMin2_i, hMax2_i, hMin3_i, hInt1_b, hInt1_i, hBits_i, hListOf_l, hListOf_t, hTupOf_l, hTupOf_t, gSeqS_def, gSet_def, gRet_def, gIfS_def, gNext_def, gTup_def, gLst_def, List.getElem?_cons_zero, List.getElem?_cons_succ, List.set_cons_zero, List.set_cons_succ, List.length_cons, List.length_nil, Nat.zero_add, Nat.reduceAdd, Nat.reduceLeDiff, Nat.reduceSub, Nat.reduceMul, if_true, if_false, Bool.false_eq_true, List.replicate_succ, List.replicate_zero, List.cons_append, List.nil_append, tgN, tgT, tgCons, tgNil, Int.reducePow, Int.reduceAdd, Int.reduceSub, Int.reduceMul, decide_true, decide_false, Bool.not_true, Bool.not_false, gChain_def, hIsa_int, hIsa_intb, hIsa_list, hIsa_tuple, gDrop_def, beq_self_eq_true, e0]
      exact ⟨_, _, rfl, p0, Int.lt_of_lt_of_le p1 q3', p2, Int.lt_of_lt_of_le p3 q2'⟩
    · have e1 : (kind == 1) = false := beq_eq_false_iff_ne.mpr h1
      by_cases h2 : kind = 2
      · subst h2
        simp (disch := omega) only [bnd_ok, gVar_def, gC_def, gOp_def, gUn_def, gNil_def, gCons_def, gIf_def, gTest_def, gNot_def, gAnd_def, gOr_def, gAndV_def, gOrV_def, gNotV_def, gCB_def, asB_b, hAdd_i, hSub_i, hLt_i, hLe_i, hGt_i, hGe_i, hMul_r, hMul_l, hMod_i, hDiv_s, hBand_i, hShr_i, hPow_10_18, hPow_10_27, hPow_10_28, hPow_10_29, hPow_10_30, hEq_i, hNe_i, hLen_l, hLen_t, hMin2_i, hMax2_i, hMin3_i, hInt1_b, hInt1_i, hBits_i, hListOf_l, hListOf_t, hTupOf_l, hTupOf_t, gSeqS_def, gSet_def, gRet_def, gIfS_def, gNext_def, gTup_def, gLst_def, List.getElem?_cons_zero, List.getElem?_cons_succ, List.set_cons_zero, List.set_cons_succ, List.length_cons, List.length_nil, Nat.zero_add, Nat.reduceAdd, Nat.reduceLeDiff, Nat.reduceSub, Nat.reduceMul, if_true, if_false, Bool.false_eq_true, List.replicate_succ, List.replicate_zero, List.cons_append, List.nil_append, tgN, tgT, tgCons, tgNil, Int.reducePow, Int.reduceAdd, Int.reduceSub, Int.reduceMul, decide_true, decide_false, Bool.not_true, Bool.not_false, gChain_def, hIsa_int, hIsa_intb, hIsa_list, hIsa_tuple, gDrop_def, beq_self_eq_true, e0, e1]
        exact ⟨_, _, rfl, m0 _, m1 _, m0 _, m1 _⟩
      · have e2 : (kind == 2) = false := beq_eq_false_iff_ne.mpr h2
        simp (disch := omega) only [bnd_ok, gVar_def, gC_def, gOp_def, gUn_def, gNil_def, gCons_def, gIf_def, gTest_def, gNot_def, gAnd_def, gOr_def, gAndV_def, gOrV_def, gNotV_def, gCB_def, asB_b, hAdd_i, hSub_i, hLt_i, hLe_i, hGt_i, hGe_i, hMul_r, hMul_l, hMod_i, hDiv_s, hBand_i, hShr_i, hPow_10_18, hPow_10_27, hPow_10_28, hPow_10_29, hPow_10_30, hEq_i, hNe_i, hLen_l, hLen_t, hMin2_i, hMax2_i, hMin3_i, hInt1_b, hInt1_i, hBits_i, hListOf_l, hListOf_t, hTupOf_l, hTupOf_t, gSeqS_def, gSet_def, gRet_def, gIfS_def, gNext_def, gTup_def, gLst_def, List.getElem?_cons_zero, List.getElem?_cons_succ, List.set_cons_zero, List.set_cons_succ, List.length_cons, List.length_nil, Nat.zero_add, Nat.reduceAdd, Nat.reduceLeDiff, Nat.reduceSub, Nat.reduceMul, if_true, if_false, Bool.false_eq_true, List.replicate_succ, List.replicate_zero, List.cons_append, List.nil_append, tgN, tgT, tgCons, tgNil, Int.reducePow, Int.reduceAdd, Int.reduceSub, Int.reduceMul, decide_true, decide_false, Bool.not_true, Bool.not_false, gChain_def, hIsa_int, hIsa_intb, hIsa_list, hIsa_tuple, gDrop_def, e0, e1, e2]
        exact ⟨_, _, rfl, m0 _, m1 _, m0 _, m1 _⟩

theorem bits30 : Builtin.Int.intBits 1000000000000000000000000000000 = 100 := by decide +kernel
def wB : Gs := gSeqS (gSet 6 (gOp hAdd (gOp hMul (gVar 6) (gC (.int (2147483647)))) (gCallN 2 f_l_mixed (gCons (gVar 0) (gCons (gOp hAdd (gOp hMul (gC (.int (8))) (gVar 5)) (gVar 7)) (gNil)))))) (gSet 7 (gOp hAdd (gVar 7) (gC (.int (1)))))
def wT : List Dt → O Bool := gTest (gOp hLt (gOp hMul (gVar 7) (gC (.int (30)))) (gOp hAdd (gUn hBits (gVar 2)) (gC (.int (8)))))
theorem wB_ok (c k x t : Int) (a f l : Dt) : ∃ y, wB [.int c, a, .int B30, f, l, .int k, .int x, .int t] = .ok (.nx [.int c, a, .int B30, f, l, .int k, .int y, .int (t + 1)]) := by
  obtain ⟨z, hz, _, _⟩ := mixed_ok c (8 * k + t)
  unfold wB
  have h1 : gCallN 2 f_l_mixed (gCons (gVar 0) (gCons (gOp hAdd (gOp hMul (gC (.int (8))) (gVar 5)) (gVar 7)) (gNil))) [.int c, a, .int B30, f, l, .int k, .int x, .int t] = .ok (.int z) := by
    refine callN_ok (ds := [.int c, .int (8 * k + t)]) ?_ rfl hz
    simp (disch := omega) only [bnd_ok, gVar_def, gC_def, gOp_def, gUn_def, gNil_def, gCons_def, gIf_def, gTest_def, gNot_def, gAnd_def, gOr_def, gAndV_def, gOrV_def, gNotV_def, gCB_def, asB_b, hAdd_i, hSub_i, hLt_i, hLe_i, hGt_i, hGe_i, hMul_r, hMul_l, hMod_i, hDiv_s, hBand_i, hShr_i, hPow_10_18, hPow_10_27, hPow_10_28, hPow_10_29, hPow_10_30, hEq_i, hNe_i, hLen_l, hLen_t, hMin2_i, hMax2_i, hMin3_i, hInt1_b, hInt1_i, hBits_i, hListOf_l, hListOf_t, hTupOf_l, hTupOf_t, gSeqS_def, gSet_def, gRet_def, gIfS_def, gNext_def, gTup_def, gLst_def, List.getElem?_cons_zero, List.getElem?_cons_succ, List.set_cons_zero, List.set_cons_succ, List.length_cons, List.length_nil, Nat.zero_add, Nat.reduceAdd, Nat.reduceLeDiff, Nat.reduceSub, Nat.reduceMul, if_true, if_false, Bool.false_eq_true, List.replicate_succ, List.replicate_zero, List.cons_append, List.nil_append, tgN, tgT, tgCons, tgNil, Int.reducePow, Int.reduceAdd, Int.reduceSub, Int.reduceMul, decide_true, decide_false, Bool.not_true, Bool.not_false, gChain_def, hIsa_int, hIsa_intb, hIsa_list, hIsa_tuple, gDrop_def]
  simp (disch := omega) only [bnd_ok, gVar_def, gC_def, gOp_def, gUn_def, gNil_def, gCons_def, gIf_def, gTest_def, gNot_def, gAnd_def, gOr_def, gAndV_def, gOrV_def, gNotV_def, gCB_def, asB_b, hAdd_i, hSub_i, hLt_i, hLe_i, hGt_i, hGe_i, hMul_r, hMul_l, hMod_i, hDiv_s, hBand_i, hShr_i, hPow_10_18, hPow_10_27, hPow_10_28, hPow_10_29, hPow_10_30, hEq_i, hNe_i, hLen_l, hLen_t, hMin2_i, hMax2_i, hMin3_i, hInt1_b, hInt1_i, hBits_i, hListOf_l, hListOf_t, hTupOf_l, hTupOf_t, gSeqS_def, gSet_def, gRet_def, gIfS_def, gNext_def, gTup_def, gLst_def, List.getElem?_cons_zero, List.getElem?_cons_succ, List.set_cons_zero, List.set_cons_succ, List.length_cons, List.length_nil, Nat.zero_add, Nat.reduceAdd, Nat.reduceLeDiff, Nat.reduceSub, Nat.reduceMul, if_true, if_false, Bool.false_eq_true, List.replicate_succ, List.replicate_zero, List.cons_append, List.nil_append, tgN, tgT, tgCons, tgNil, Int.reducePow, Int.reduceAdd, Int.reduceSub, Int.reduceMul, decide_true, decide_false, Bool.not_true, Bool.not_false, gChain_def, hIsa_int, hIsa_intb, hIsa_list, hIsa_tuple, gDrop_def, h1]
  exact ⟨_, rfl⟩
theorem wT_ok (c k x t : Int) (a f l : Dt) : wT [.int c, a, .int B30, f, l, .int k, .int x, .int t] = .ok (decide (t * 30 < 108)) := by
  unfold wT
  simp (disch := omega) only [bnd_ok, gVar_def, gC_def, gOp_def, gUn_def, gNil_def, gCons_def, gIf_def, gTest_def, gNot_def, gAnd_def, gOr_def, gAndV_def, gOrV_def, gNotV_def, gCB_def, asB_b, hAdd_i, hSub_i, hLt_i, hLe_i, hGt_i, hGe_i, hMul_r, hMul_l, hMod_i, hDiv_s, hBand_i, hShr_i, hPow_10_18, hPow_10_27, hPow_10_28, hPow_10_29, hPow_10_30, hEq_i, hNe_i, hLen_l, hLen_t, hMin2_i, hMax2_i, hMin3_i, hInt1_b, hInt1_i, hBits_i, hListOf_l, hListOf_t, hTupOf_l, hTupOf_t, gSeqS_def, gSet_def, gRet_def, gIfS_def, gNext_def, gTup_def, gLst_def, List.getElem?_cons_zero, List.getElem?_cons_succ, List.set_cons_zero, List.set_cons_succ, List.length_cons, List.length_nil, Nat.zero_add, Nat.reduceAdd, Nat.reduceLeDiff, Nat.reduceSub, Nat.reduceMul, if_true, if_false, Bool.false_eq_true, List.replicate_succ, List.replicate_zero, List.cons_append, List.nil_append, tgN, tgT, tgCons, tgNil, Int.reducePow, Int.reduceAdd, Int.reduceSub, Int.reduceMul, decide_true, decide_false, Bool.not_true, Bool.not_false, gChain_def, hIsa_int, hIsa_intb, hIsa_list, hIsa_tuple, gDrop_def, bits30]
  rfl
theorem wh_ok (c k : Int) (a f l : Dt) : ∃ y, gWhile wT wB 100 [.int c, a, .int B30, f, l, .int k, .int 0, .int 0] = .ok (.nx [.int c, a, .int B30, f, l, .int k, .int y, .int 4]) := by
  obtain ⟨y1, h1⟩ := wB_ok c k 0 0 a f l
  obtain ⟨y2, h2⟩ := wB_ok c k y1 1 a f l
  obtain ⟨y3, h3⟩ := wB_ok c k y2 2 a f l
  obtain ⟨y4, h4⟩ := wB_ok c k y3 3 a f l
  refine ⟨y4, ?_⟩
  rw [while_t (n := 99) (wT_ok c k 0 0 a f l) h1]
  show gWhile wT wB 99 [.int c, a, .int B30, f, l, .int k, .int y1, .int 1] = _
  rw [while_t (n := 98) (wT_ok c k y1 1 a f l) h2]
  show gWhile wT wB 98 [.int c, a, .int B30, f, l, .int k, .int y2, .int 2] = _
  rw [while_t (n := 97) (wT_ok c k y2 2 a f l) h3]
  show gWhile wT wB 97 [.int c, a, .int B30, f, l, .int k, .int y3, .int 3] = _
  rw [while_t (n := 96) (wT_ok c k y3 3 a f l) h4]
  exact while_f (wT_ok c k y4 4 a f l)
theorem numbers_ok (cell many : Int) (h0 : 0 ≤ many) (h1 : many ≤ 1000) : ∃ xs : List Int, f_l_numbers [.int cell, .int many, .int B30] = .ok (.list (xs.map .int)) ∧ xs.length = many.toNat ∧ ∀ x ∈ xs, 0 ≤ x ∧ x < B30 := by
  obtain ⟨n, rfl⟩ : ∃ n : Nat, many = n := ⟨many.toNat, by omega⟩
  obtain ⟨ρ', hf, xs, l, d5, d6, d7, rfl, hl, hx⟩ := forE_ix (fun (k : Nat) => PyData.int (k : Int)) (h := tgN 5)
    (b := gSeqS (gSet 6 (gVar 4)) (gSeqS (gIfS (gTest (gOp hGt (gVar 4) (gC (.int (0))))) (gSet 4 (gOp hDiv (gVar 4) (gVar 2))) (gSeqS (gSet 6 (gC (.int (0)))) (gSeqS (gSet 7 (gC (.int (0)))) (gWhile wT wB 100)))) (gApp 3 (gOp hMod (gVar 6) (gVar 2)))))
    (List.range n) (fun i ρ => ∃ (xs : List Int) (l : Int) (d5 d6 d7 : Dt), ρ = [.int cell, .int n, .int B30, .list (xs.map .int), .int l, d5, d6, d7] ∧ xs.length = i ∧ ∀ x ∈ xs, 0 ≤ x ∧ x < B30)
    (ρ := [.int cell, .int n, .int B30, .list [], .int (cell - 1000000000000000000), .none, .none, .none]) ⟨[], _, _, _, _, rfl, rfl, by simp⟩ (by
      rintro i ρ hi ⟨xs, l, d5, d6, d7, rfl, hl, hx⟩
      rw [List.getElem_range]
      rw [List.length_range] at hi
      have app : ∀ (l x : Int) (d7 : Dt), gApp 3 (gOp hMod (gVar 6) (gVar 2)) [.int cell, .int n, .int B30, .list (xs.map .int), .int l, .int i, .int x, d7] = .ok (.nx [.int cell, .int n, .int B30, .list ((xs ++ [x % B30]).map .int), .int l, .int i, .int x, d7]) := fun l x d7 => by
        refine (gApp_l (ds := xs.map .int) (d := .int (x % B30)) rfl ?_ (by rw [List.length_map]; omega)).trans ?_
        · simp (disch := first | omega | decide) only [bnd_ok, gVar_def, gC_def, gOp_def, gUn_def, gNil_def, gCons_def, gIf_def, gTest_def, gNot_def, gAnd_def, gOr_def, gAndV_def, gOrV_def, gNotV_def, gCB_def, asB_b, hAdd_i, hSub_i, hLt_i, hLe_i, hGt_i, hGe_i, hMul_r, hMul_l, hMod_i, hDiv_s, hBand_i, hShr_i, hPow_10_18, hPow_10_27, hPow_10_28, hPow_10_29, hPow_10_30, hEq_i, hNe_i, hLen_l, hLen_t, hMin2_i, hMax2_i, hMin3_i, hInt1_b, hInt1_i, hBits_i, hListOf_l, hListOf_t, hTupOf_l, hTupOf_t, gSeqS_def, gSet_def, gRet_def, gIfS_def, gNext_def, gTup_def, gLst_def, List.getElem?_cons_zero, List.getElem?_cons_succ, List.set_cons_zero, List.set_cons_succ, List.length_cons, List.length_nil, Nat.zero_add, Nat.reduceAdd, Nat.reduceLeDiff, Nat.reduceSub, Nat.reduceMul, if_true, if_false, Bool.false_eq_true, List.replicate_succ, List.replicate_zero, List.cons_append, List.nil_append, tgN, tgT, tgCons, tgNil, Int.reducePow, Int.reduceAdd, Int.reduceSub, Int.reduceMul, decide_true, decide_false, Bool.not_true, Bool.not_false, gChain_def, hIsa_int, hIsa_intb, hIsa_list, hIsa_tuple, gDrop_def]
        · rw [map_snoc]; rfl
      have fin : ∀ (x : Int), ∀ y ∈ xs ++ [x % B30], 0 ≤ y ∧ y < B30 := fun x y hy => by
        rcases List.mem_append.mp hy with h | h
        · exact hx y h
        · have := List.mem_singleton.mp h
          subst this
          unfold B30
          constructor <;> omega
      by_cases hp : 0 < l
      · refine ⟨_, _, rfl, .inl ?_, xs ++ [l % B30], l / B30, .int i, .int l, d7, rfl, by rw [List.length_append, hl]; rfl, fin l⟩
        have e : decide (0 < l) = true := decide_eq_true hp
        simp (disch := first | omega | decide) only [bnd_ok, gVar_def, gC_def, gOp_def, gUn_def, gNil_def, gCons_def, gIf_def, gTest_def, gNot_def, gAnd_def, gOr_def, gAndV_def, gOrV_def, gNotV_def, gCB_def, asB_b, hAdd_i, hSub_i, hLt_i, hLe_i, hGt_i, hGe_i, hMul_r, hMul_l, hMod_i, hDiv_s, hBand_i, hShr_i, hPow_10_18, hPow_10_27, hPow_10_28, hPow_10_29, hPow_10_30, hEq_i, hNe_i, hLen_l, hLen_t, hMin2_i, hMax2_i, hMin3_i, hInt1_b, hInt1_i, hBits_i, hListOf_l, hListOf_t, hTupOf_l, hTupOf_t, gSeqS_def, gSet_def, gRet_def, gIfS_def, gNext_def, gTup_def, gLst_def, List.getElem?_cons_zero, List.getElem?_cons_succ, List.set_cons_zero, List.set_cons_succ, List.length_cons, List.length_nil, Nat.zero_add, Nat.reduceAdd, Nat.reduceLeDiff, Nat.reduceSub, Nat.reduceMul, if_true, if_false, Bool.false_eq_true, List.replicate_succ, List.replicate_zero, List.cons_append, List.nil_append, tgN, tgT, tgCons, tgNil, Int.reducePow, Int.reduceAdd, Int.reduceSub, Int.reduceMul, decide_true, decide_false, Bool.not_true, Bool.not_false, gChain_def, hIsa_int, hIsa_intb, hIsa_list, hIsa_tuple, gDrop_def, e, app]
      · obtain ⟨y, hy⟩ := wh_ok cell i (.int n) (.list (xs.map .int)) (.int l)
        refine ⟨_, _, rfl, .inl ?_, xs ++ [y % B30], l, .int i, .int y, .int 4, rfl, by rw [List.length_append, hl]; rfl, fin y⟩
        have e : decide (0 < l) = false := decide_eq_false hp
        simp (disch := first | omega | decide) only [bnd_ok, gVar_def, gC_def, gOp_def, gUn_def, gNil_def, gCons_def, gIf_def, gTest_def, gNot_def, gAnd_def, gOr_def, gAndV_def, gOrV_def, gNotV_def, gCB_def, asB_b, hAdd_i, hSub_i, hLt_i, hLe_i, hGt_i, hGe_i, hMul_r, hMul_l, hMod_i, hDiv_s, hBand_i, hShr_i, hPow_10_18, hPow_10_27, hPow_10_28, hPow_10_29, hPow_10_30, hEq_i, hNe_i, hLen_l, hLen_t, hMin2_i, hMax2_i, hMin3_i, hInt1_b, hInt1_i, hBits_i, hListOf_l, hListOf_t, hTupOf_l, hTupOf_t, gSeqS_def, gSet_def, gRet_def, gIfS_def, gNext_def, gTup_def, gLst_def, List.getElem?_cons_zero, List.getElem?_cons_succ, List.set_cons_zero, List.set_cons_succ, List.length_cons, List.length_nil, Nat.zero_add, Nat.reduceAdd, Nat.reduceLeDiff, Nat.reduceSub, Nat.reduceMul, if_true, if_false, Bool.false_eq_true, List.replicate_succ, List.replicate_zero, List.cons_append, List.nil_append, tgN, tgT, tgCons, tgNil, Int.reducePow, Int.reduceAdd, Int.reduceSub, Int.reduceMul, decide_true, decide_false, Bool.not_true, Bool.not_false, gChain_def, hIsa_int, hIsa_intb, hIsa_list, hIsa_tuple, gDrop_def, e, hy, app])
  refine ⟨xs, ?_, by rw [hl, List.length_range]; omega, hx⟩
  refine fnL_rt ?_
  show g_l_numbers [.int cell, .int n, .int B30, .none, .none, .none, .none, .none] = _
  unfold g_l_numbers
  have e1 : gSet 3 (gLst gNil) [.int cell, .int n, .int B30, .none, .none, .none, .none, .none] = .ok (.nx [.int cell, .int n, .int B30, .list [], .none, .none, .none, .none]) := by
    simp (disch := first | omega | decide) only [bnd_ok, gVar_def, gC_def, gOp_def, gUn_def, gNil_def, gCons_def, gIf_def, gTest_def, gNot_def, gAnd_def, gOr_def, gAndV_def, gOrV_def, gNotV_def, gCB_def, asB_b, hAdd_i, hSub_i, hLt_i, hLe_i, hGt_i, hGe_i, hMul_r, hMul_l, hMod_i, hDiv_s, hBand_i, hShr_i, hPow_10_18, hPow_10_27, hPow_10_28, hPow_10_29, hPow_10_30, hEq_i, hNe_i, hLen_l, hLen_t, hMin2_i, hMax2_i, hMin3_i, hInt1_b, hInt1_i, hBits_i, hListOf_l, hListOf_t, hTupOf_l, hTupOf_t, gSeqS_def, gSet_def, gRet_def, gIfS_def, gNext_def, gTup_def, gLst_def, List.getElem?_cons_zero, List.getElem?_cons_succ, List.set_cons_zero, List.set_cons_succ, List.length_cons, List.length_nil, Nat.zero_add, Nat.reduceAdd, Nat.reduceLeDiff, Nat.reduceSub, Nat.reduceMul, if_true, if_false, Bool.false_eq_true, List.replicate_succ, List.replicate_zero, List.cons_append, List.nil_append, tgN, tgT, tgCons, tgNil, Int.reducePow, Int.reduceAdd, Int.reduceSub, Int.reduceMul, decide_true, decide_false, Bool.not_true, Bool.not_false, gChain_def, hIsa_int, hIsa_intb, hIsa_list, hIsa_tuple, gDrop_def, Nat.zero_le]
  rw [seq_nx e1]
  have e2 : gSet 4 (gOp hSub (gVar 0) (gOp hPow (gC (.int 10)) (gC (.int 18)))) [.int cell, .int n, .int B30, .list [], .none, .none, .none, .none] = .ok (.nx [.int cell, .int n, .int B30, .list [], .int (cell - 1000000000000000000), .none, .none, .none]) := by
    simp (disch := first | omega | decide) only [bnd_ok, gVar_def, gC_def, gOp_def, gUn_def, gNil_def, gCons_def, gIf_def, gTest_def, gNot_def, gAnd_def, gOr_def, gAndV_def, gOrV_def, gNotV_def, gCB_def, asB_b, hAdd_i, hSub_i, hLt_i, hLe_i, hGt_i, hGe_i, hMul_r, hMul_l, hMod_i, hDiv_s, hBand_i, hShr_i, hPow_10_18, hPow_10_27, hPow_10_28, hPow_10_29, hPow_10_30, hEq_i, hNe_i, hLen_l, hLen_t, hMin2_i, hMax2_i, hMin3_i, hInt1_b, hInt1_i, hBits_i, hListOf_l, hListOf_t, hTupOf_l, hTupOf_t, gSeqS_def, gSet_def, gRet_def, gIfS_def, gNext_def, gTup_def, gLst_def, List.getElem?_cons_zero, List.getElem?_cons_succ, List.set_cons_zero, List.set_cons_succ, List.length_cons, List.length_nil, Nat.zero_add, Nat.reduceAdd, Nat.reduceLeDiff, Nat.reduceSub, Nat.reduceMul, if_true, if_false, Bool.false_eq_true, List.replicate_succ, List.replicate_zero, List.cons_append, List.nil_append, tgN, tgT, tgCons, tgNil, Int.reducePow, Int.reduceAdd, Int.reduceSub, Int.reduceMul, decide_true, decide_false, Bool.not_true, Bool.not_false, gChain_def, hIsa_int, hIsa_intb, hIsa_list, hIsa_tuple, gDrop_def]
  rw [seq_nx e2]
  have e3 : gRng1 (gCons (gVar 1) gNil) [.int cell, .int n, .int B30, .list [], .int (cell - 1000000000000000000), .none, .none, .none] = .ok ((List.range n).map fun (k : Nat) => PyData.int (k : Int)) := by
    rw [← rangeD_nat]
    refine rng1_ok ?_ (by omega) (by omega)
    simp (disch := first | omega | decide) only [bnd_ok, gVar_def, gC_def, gOp_def, gUn_def, gNil_def, gCons_def, gIf_def, gTest_def, gNot_def, gAnd_def, gOr_def, gAndV_def, gOrV_def, gNotV_def, gCB_def, asB_b, hAdd_i, hSub_i, hLt_i, hLe_i, hGt_i, hGe_i, hMul_r, hMul_l, hMod_i, hDiv_s, hBand_i, hShr_i, hPow_10_18, hPow_10_27, hPow_10_28, hPow_10_29, hPow_10_30, hEq_i, hNe_i, hLen_l, hLen_t, hMin2_i, hMax2_i, hMin3_i, hInt1_b, hInt1_i, hBits_i, hListOf_l, hListOf_t, hTupOf_l, hTupOf_t, gSeqS_def, gSet_def, gRet_def, gIfS_def, gNext_def, gTup_def, gLst_def, List.getElem?_cons_zero, List.getElem?_cons_succ, List.set_cons_zero, List.set_cons_succ, List.length_cons, List.length_nil, Nat.zero_add, Nat.reduceAdd, Nat.reduceLeDiff, Nat.reduceSub, Nat.reduceMul, if_true, if_false, Bool.false_eq_true, List.replicate_succ, List.replicate_zero, List.cons_append, List.nil_append, tgN, tgT, tgCons, tgNil, Int.reducePow, Int.reduceAdd, Int.reduceSub, Int.reduceMul, decide_true, decide_false, Bool.not_true, Bool.not_false, gChain_def, hIsa_int, hIsa_intb, hIsa_list, hIsa_tuple, gDrop_def]
  exact (seq_nx (b := gRet (gVar 3)) (for_ok e3 hf)).trans rfl

/-! ### records -/
abbrev T3 := Int × Int × Int
def enc3 (t : T3) : Dt := .tuple [.int t.1, .int t.2.1, .int t.2.2]
structure TieOk (n : Int) (t : T3) : Prop where
  m0 : 0 ≤ t.1
  m1 : t.1 < B30
  a0 : 0 ≤ t.2.1
  ab : t.2.1 ≤ t.2.2
  bn : t.2.2 < n
structure RecOk (n : Int) (r : List T3) : Prop where
  len : r.length ≤ 60
  ties : ∀ t ∈ r, TieOk n t
  ord : r.Pairwise fun s t => s.1 < t.1
theorem ix_ok {ns : List Int} (hns : ∀ x ∈ ns, 0 ≤ x ∧ x < B30) {i : Int} (h0 : 0 ≤ i) (h1 : i < ns.length) : ∃ x, hIx (.list (ns.map .int)) (.int i) = .ok (.int x) ∧ 0 ≤ x ∧ x < B30 :=
  ⟨_, hIx_ints h0 h1, hns _ (List.getElem_mem _)⟩
theorem ix3 (a b c i : Int) (h0 : 0 ≤ i) (h1 : i < 3) : hIx (.list [.int a, .int b, .int c]) (.int i) = .ok (.int (if i = 0 then a else if i = 1 then b else c)) := by
  have : i = 0 ∨ i = 1 ∨ i = 2 := by omega
  rcases this with rfl | rfl | rfl <;> rfl
theorem map3_snoc (r : List T3) (t : T3) : r.map enc3 ++ [enc3 t] = (r ++ [t]).map enc3 := by rw [List.map_append]; rfl
def rB : Gs := (gSeqS (gAsg (gCallN 4 f_l_ends (gCons (gVar 2) (gCons (gOp hMod (gOp hIx (gVar 0) (gC (.int (3)))) (gC (.int (4)))) (gCons (gOp hIx (gVar 0) (gOp hAdd (gC (.int (4))) (gOp hMul (gC (.int (3))) (gVar 7)))) (gCons (gOp hIx (gVar 0) (gOp hAdd (gC (.int (5))) (gOp hMul (gC (.int (3))) (gVar 7)))) (gNil)))))) (tgT (tgCons (tgN 8) (tgCons (tgN 9) (tgNil))))) (gSeqS (gApp 6 (gTup (gCons (gVar 5) (gCons (gCB hMin2 (gCons (gVar 8) (gCons (gVar 9) (gNil)))) (gCons (gCB hMax2 (gCons (gVar 8) (gCons (gVar 9) (gNil)))) (gNil)))))) (gSet 5 (gOp hAdd (gOp hAdd (gVar 5) (gC (.int (1)))) (gOp hMod (gOp hIx (gVar 0) (gOp hAdd (gC (.int (6))) (gOp hMul (gC (.int (3))) (gVar 7)))) (gVar 4))))))
theorem rB_ok {ns : List Int} (hns : ∀ x ∈ ns, 0 ≤ x ∧ x < B30) (hl : 4 ≤ ns.length) {k : Nat} (hk : 3 * k + 6 < ns.length) {n : Int} (hn : 1 ≤ n) {wd m : Int} (hw : 0 < wd) (hm : 0 ≤ m) {r : List T3} (hr : r.length < 100) (mo : Dt) (c d8 d9 : Dt) :
    ∃ t m' q8 q9, rB [.list (ns.map .int), mo, .int n, c, .int wd, .int m, .list (r.map enc3), .int k, d8, d9] = .ok (.nx [.list (ns.map .int), mo, .int n, c, .int wd, .int m', .list ((r ++ [t]).map enc3), .int k, q8, q9])
      ∧ t.1 = m ∧ 0 ≤ t.2.1 ∧ t.2.1 ≤ t.2.2 ∧ t.2.2 < n ∧ m < m' ∧ m' ≤ m + wd := by
  obtain ⟨x3, e3, _⟩ := ix_ok hns (i := 3) (by omega) (by omega)
  obtain ⟨x4, e4, _⟩ := ix_ok hns (i := 4 + 3 * (k : Int)) (by omega) (by omega)
  obtain ⟨x5, e5, _⟩ := ix_ok hns (i := 5 + 3 * (k : Int)) (by omega) (by omega)
  obtain ⟨x6, e6, _⟩ := ix_ok hns (i := 6 + 3 * (k : Int)) (by omega) (by omega)
  obtain ⟨a, b, he, ha0, ha, hb0, hb⟩ := ends_ok n (x3 % 4) x4 x5 hn
  have w0 := Int.emod_nonneg x6 (show wd ≠ 0 by omega)
  have w1 := Int.emod_lt_of_pos x6 hw
  have c1 : gAsg (gCallN 4 f_l_ends (gCons (gVar 2) (gCons (gOp hMod (gOp hIx (gVar 0) (gC (.int (3)))) (gC (.int (4)))) (gCons (gOp hIx (gVar 0) (gOp hAdd (gC (.int (4))) (gOp hMul (gC (.int (3))) (gVar 7)))) (gCons (gOp hIx (gVar 0) (gOp hAdd (gC (.int (5))) (gOp hMul (gC (.int (3))) (gVar 7)))) (gNil)))))) (tgT (tgCons (tgN 8) (tgCons (tgN 9) (tgNil))))
      [.list (ns.map .int), mo, .int n, c, .int wd, .int m, .list (r.map enc3), .int k, d8, d9] = .ok (.nx [.list (ns.map .int), mo, .int n, c, .int wd, .int m, .list (r.map enc3), .int k, .int a, .int b]) := by
    refine asg_ok (callN_ok (ds := [.int n, .int (x3 % 4), .int x4, .int x5]) ?_ rfl he) ?_
    · simp (disch := omega) only [bnd_ok, gVar_def, gC_def, gOp_def, gUn_def, gNil_def, gCons_def, gIf_def, gTest_def, gNot_def, gAnd_def, gOr_def, gAndV_def, gOrV_def, gNotV_def, gCB_def, asB_b, hAdd_i, hSub_i, hLt_i, hLe_i, hGt_i, hGe_i, hMul_r, hMul_l, hMod_i, hDiv_s, hBand_i, hShr_i, hPow_10_18, hPow_10_27, hPow_10_28, hPow_10_29, hPow_10_30, hEq_i, hNe_i, hLen_l, hLen_t, hMin2_i, hMax2_i, hMin3_i, hInt1_b, hInt1_i, hBits_i, hListOf_l, hListOf_t, hTupOf_l, hTupOf_t, gSeqS_def, gSet_def, gRet_def, gIfS_def, gNext_def, gTup_def, gLst_def, List.getElem?_cons_zero, List.getElem?_cons_succ, List.set_cons_zero, List.set_cons_succ, List.length_cons, List.length_nil, Nat.zero_add, Nat.reduceAdd, Nat.reduceLeDiff, Nat.reduceSub, Nat.reduceMul, if_true, if_false, Bool.false_eq_true, List.replicate_succ, List.replicate_zero, List.cons_append, List.nil_append, tgN, tgT, tgCons, tgNil, Int.reducePow, Int.reduceAdd, Int.reduceSub, Int.reduceMul, decide_true, decide_false, Bool.not_true, Bool.not_false, gChain_def, hIsa_int, hIsa_intb, hIsa_list, hIsa_tuple, gDrop_def, e3, e4, e5]
    · simp only [bnd_ok, gVar_def, gC_def, gOp_def, gUn_def, gNil_def, gCons_def, gIf_def, gTest_def, gNot_def, gAnd_def, gOr_def, gAndV_def, gOrV_def, gNotV_def, gCB_def, asB_b, hAdd_i, hSub_i, hLt_i, hLe_i, hGt_i, hGe_i, hMul_r, hMul_l, hMod_i, hDiv_s, hBand_i, hShr_i, hPow_10_18, hPow_10_27, hPow_10_28, hPow_10_29, hPow_10_30, hEq_i, hNe_i, hLen_l, hLen_t, hMin2_i, hMax2_i, hMin3_i, hInt1_b, hInt1_i, hBits_i, hListOf_l, hListOf_t, hTupOf_l, hTupOf_t, gSeqS_def, gSet_def, gRet_def, gIfS_def, gNext_def, gTup_def, gLst_def, List.getElem?_cons_zero, List.getElem?_cons_succ, List.set_cons_zero, List.set_cons_succ, List.length_cons, List.length_nil, Nat.zero_add, Nat.reduceAdd, Nat.reduceLeDiff, Nat.reduceSub, Nat.reduceMul, if_true, if_false, Bool.false_eq_true, List.replicate_succ, List.replicate_zero, List.cons_append, List.nil_append, tgN, tgT, tgCons, tgNil, Int.reducePow, Int.reduceAdd, Int.reduceSub, Int.reduceMul, decide_true, decide_false, Bool.not_true, Bool.not_false, gChain_def, hIsa_int, hIsa_intb, hIsa_list, hIsa_tuple, gDrop_def]
  have c2 : gApp 6 (gTup (gCons (gVar 5) (gCons (gCB hMin2 (gCons (gVar 8) (gCons (gVar 9) (gNil)))) (gCons (gCB hMax2 (gCons (gVar 8) (gCons (gVar 9) (gNil)))) (gNil)))))
      [.list (ns.map .int), mo, .int n, c, .int wd, .int m, .list (r.map enc3), .int k, .int a, .int b] = .ok (.nx [.list (ns.map .int), mo, .int n, c, .int wd, .int m, .list ((r ++ [(m, (if b < a then b else a), (if b > a then b else a))]).map enc3), .int k, .int a, .int b]) := by
    refine (gApp_l (ds := r.map enc3) (d := enc3 (m, (if b < a then b else a), (if b > a then b else a))) rfl ?_ (by rw [List.length_map]; omega)).trans ?_
    · simp (disch := omega) only [bnd_ok, gVar_def, gC_def, gOp_def, gUn_def, gNil_def, gCons_def, gIf_def, gTest_def, gNot_def, gAnd_def, gOr_def, gAndV_def, gOrV_def, gNotV_def, gCB_def, asB_b, hAdd_i, hSub_i, hLt_i, hLe_i, hGt_i, hGe_i, hMul_r, hMul_l, hMod_i, hDiv_s, hBand_i, hShr_i, hPow_10_18, hPow_10_27, hPow_10_28, hPow_10_29, hPow_10_30, hEq_i, hNe_i, hLen_l, hLen_t, hMin2_i, hMax2_i, hMin3_i, hInt1_b, hInt1_i, hBits_i, hListOf_l, hListOf_t, hTupOf_l, hTupOf_t, gSeqS_def, gSet_def, gRet_def, gIfS_def, gNext_def, gTup_def, gLst_def, List.getElem?_cons_zero, List.getElem?_cons_succ, List.set_cons_zero, List.set_cons_succ, List.length_cons, List.length_nil, Nat.zero_add, Nat.reduceAdd, Nat.reduceLeDiff, Nat.reduceSub, Nat.reduceMul, if_true, if_false, Bool.false_eq_true, List.replicate_succ, List.replicate_zero, List.cons_append, List.nil_append, tgN, tgT, tgCons, tgNil, Int.reducePow, Int.reduceAdd, Int.reduceSub, Int.reduceMul, decide_true, decide_false, Bool.not_true, Bool.not_false, gChain_def, hIsa_int, hIsa_intb, hIsa_list, hIsa_tuple, gDrop_def]
      rfl
    · rw [map3_snoc]; rfl
  unfold rB
  rw [seq_nx c1, seq_nx c2]
  refine ⟨(m, (if b < a then b else a), (if b > a then b else a)), m + 1 + x6 % wd, .int a, .int b, ?_, rfl, ?_, ?_, ?_, by omega, by omega⟩
  · simp (disch := omega) only [bnd_ok, gVar_def, gC_def, gOp_def, gUn_def, gNil_def, gCons_def, gIf_def, gTest_def, gNot_def, gAnd_def, gOr_def, gAndV_def, gOrV_def, gNotV_def, gCB_def, asB_b, hAdd_i, hSub_i, hLt_i, hLe_i, hGt_i, hGe_i, hMul_r, hMul_l, hMod_i, hDiv_s, hBand_i, hShr_i, hPow_10_18, hPow_10_27, hPow_10_28, hPow_10_29, hPow_10_30, hEq_i, hNe_i, hLen_l, hLen_t, hMin2_i, hMax2_i, hMin3_i, hInt1_b, hInt1_i, hBits_i, hListOf_l, hListOf_t, hTupOf_l, hTupOf_t, gSeqS_def, gSet_def, gRet_def, gIfS_def, gNext_def, gTup_def, gLst_def, List.getElem?_cons_zero, List.getElem?_cons_succ, List.set_cons_zero, List.set_cons_succ, List.length_cons, List.length_nil, Nat.zero_add, Nat.reduceAdd, Nat.reduceLeDiff, Nat.reduceSub, Nat.reduceMul, if_true, if_false, Bool.false_eq_true, List.replicate_succ, List.replicate_zero, List.cons_append, List.nil_append, tgN, tgT, tgCons, tgNil, Int.reducePow, Int.reduceAdd, Int.reduceSub, Int.reduceMul, decide_true, decide_false, Bool.not_true, Bool.not_false, gChain_def, hIsa_int, hIsa_intb, hIsa_list, hIsa_tuple, gDrop_def, e6]
  · show 0 ≤ (if b < a then b else a)
    split <;> omega
  · show (if b < a then b else a) ≤ (if b > a then b else a)
    split <;> split <;> omega
  · show (if b > a then b else a) < n
    split <;> omega
theorem rec_snoc {n : Int} {r : List T3} {t : T3} (h : ∀ t ∈ r, TieOk n t) (o : r.Pairwise fun s t => s.1 < t.1) (ht : TieOk n t) (hlt : ∀ s ∈ r, s.1 < t.1) : (∀ s ∈ r ++ [t], TieOk n s) ∧ (r ++ [t]).Pairwise fun s t => s.1 < t.1 := by
  refine ⟨fun s hs => ?_, List.pairwise_append.mpr ⟨o, List.pairwise_singleton _ _, fun a ha b hb => ?_⟩⟩
  · rcases List.mem_append.mp hs with h' | h'
    · exact h s h'
    · rw [List.mem_singleton.mp h']; exact ht
  · rw [List.mem_singleton.mp hb]
    exact hlt a ha
theorem record_ok {ns : List Int} {most : Int} (hns : ∀ x ∈ ns, 0 ≤ x ∧ x < B30) (hl : 4 ≤ ns.length) (hl2 : ns.length ≤ 1000) (h0 : 0 ≤ most) (h1 : most ≤ 60) :
    ∃ n r, f_l_record [.list (ns.map .int), .int most] = .ok (.tuple [.int n, .list (r.map enc3)]) ∧ 1 ≤ n ∧ n ≤ 10 ∧ RecOk n r ∧ (r.length : Int) ≤ most := by
  obtain ⟨x0, e0, b0⟩ := ix_ok hns (i := 0) (by omega) (by omega)
  obtain ⟨x1, e1, b1⟩ := ix_ok hns (i := 1) (by omega) (by omega)
  obtain ⟨x2, e2, b2⟩ := ix_ok hns (i := 2) (by omega) (by omega)
  obtain ⟨x3, e3, b3⟩ := ix_ok hns (i := 3) (by omega) (by omega)
  suffices h : ∃ n r, g_l_record [.list (ns.map .int), .int most, .none, .none, .none, .none, .none, .none, .none, .none] = .ok (.rt (.tuple [.int n, .list (r.map enc3)])) ∧ 1 ≤ n ∧ n ≤ 10 ∧ RecOk n r ∧ (r.length : Int) ≤ most by
    obtain ⟨n, r, h, q⟩ := h
    exact ⟨n, r, fnN_rt h, q⟩
  unfold g_l_record
  -- n
  rw [seq_nx (ρ' := [.list (ns.map .int), .int most, .int (1 + x0 % 6), .none, .none, .none, .none, .none, .none, .none]) (by simp (disch := omega) only [bnd_ok, gVar_def, gC_def, gOp_def, gUn_def, gNil_def, gCons_def, gIf_def, gTest_def, gNot_def, gAnd_def, gOr_def, gAndV_def, gOrV_def, gNotV_def, gCB_def, asB_b, hAdd_i, hSub_i, hLt_i, hLe_i, hGt_i, hGe_i, hMul_r, hMul_l, hMod_i, hDiv_s, hBand_i, hShr_i, hPow_10_18, hPow_10_27, hPow_10_28, hPow_10_29, hPow_10_30, hEq_i, hNe_i, hLen_l, hLen_t, hMin2_i, hMax2_i, hMin3_i, hInt1_b, hInt1_i, hBits_i, hListOf_l, hListOf_t, hTupOf_l, hTupOf_t, gSeqS_def, gSet_def, gRet_def, gIfS_def, gNext_def, gTup_def, gLst_def, List.getElem?_cons_zero, List.getElem?_cons_succ, List.set_cons_zero, List.set_cons_succ, List.length_cons, List.length_nil, Nat.zero_add, Nat.reduceAdd, Nat.reduceLeDiff, Nat.reduceSub, Nat.reduceMul, if_true, if_false, Bool.false_eq_true, List.replicate_succ, List.replicate_zero, List.cons_append, List.nil_append, tgN, tgT, tgCons, tgNil, Int.reducePow, Int.reduceAdd, Int.reduceSub, Int.reduceMul, decide_true, decide_false, Bool.not_true, Bool.not_false, gChain_def, hIsa_int, hIsa_intb, hIsa_list, hIsa_tuple, gDrop_def, e0])]
  obtain ⟨n, hn, n1, n10⟩ : ∃ n, gIfS (gTest (gOp hEq (gOp hMod (gOp hDiv (gOp hIx (gVar 0) (gC (.int (0)))) (gC (.int (6)))) (gC (.int (8)))) (gC (.int (1))))) (gSet 2 (gOp hAdd (gC (.int (7))) (gOp hMod (gOp hDiv (gOp hIx (gVar 0) (gC (.int (0)))) (gC (.int (48)))) (gC (.int (4)))))) gNext
      [.list (ns.map .int), .int most, .int (1 + x0 % 6), .none, .none, .none, .none, .none, .none, .none] = .ok (.nx [.list (ns.map .int), .int most, .int n, .none, .none, .none, .none, .none, .none, .none]) ∧ 1 ≤ n ∧ n ≤ 10 := by
    by_cases c : x0 / 6 % 8 = 1
    · exact ⟨7 + x0 / 48 % 4, by simp (disch := omega) only [bnd_ok, gVar_def, gC_def, gOp_def, gUn_def, gNil_def, gCons_def, gIf_def, gTest_def, gNot_def, gAnd_def, gOr_def, gAndV_def, gOrV_def, gNotV_def, gCB_def, asB_b, hAdd_i, hSub_i, hLt_i, hLe_i, hGt_i, hGe_i, hMul_r, hMul_l, hMod_i, hDiv_s, hBand_i, hShr_i, hPow_10_18, hPow_10_27, hPow_10_28, hPow_10_29, hPow_10_30, hEq_i, hNe_i, hLen_l, hLen_t, hMin2_i, hMax2_i, hMin3_i, hInt1_b, hInt1_i, hBits_i, hListOf_l, hListOf_t, hTupOf_l, hTupOf_t, gSeqS_def, gSet_def, gRet_def, gIfS_def, gNext_def, gTup_def, gLst_def, List.getElem?_cons_zero, List.getElem?_cons_succ, List.set_cons_zero, List.set_cons_succ, List.length_cons, List.length_nil, Nat.zero_add, Nat.reduceAdd, Nat.reduceLeDiff, Nat.reduceSub, Nat.reduceMul, if_true, if_false, Bool.false_eq_true, List.replicate_succ, List.replicate_zero, List.cons_append, List.nil_append, tgN, tgT, tgCons, tgNil, Int.reducePow, Int.reduceAdd, Int.reduceSub, Int.reduceMul, decide_true, decide_false, Bool.not_true, Bool.not_false, gChain_def, hIsa_int, hIsa_intb, hIsa_list, hIsa_tuple, gDrop_def, e0, c, beq_self_eq_true], by omega, by omega⟩
    · have c' : (x0 / 6 % 8 == 1) = false := beq_eq_false_iff_ne.mpr c
      exact ⟨1 + x0 % 6, by simp (disch := omega) only [bnd_ok, gVar_def, gC_def, gOp_def, gUn_def, gNil_def, gCons_def, gIf_def, gTest_def, gNot_def, gAnd_def, gOr_def, gAndV_def, gOrV_def, gNotV_def, gCB_def, asB_b, hAdd_i, hSub_i, hLt_i, hLe_i, hGt_i, hGe_i, hMul_r, hMul_l, hMod_i, hDiv_s, hBand_i, hShr_i, hPow_10_18, hPow_10_27, hPow_10_28, hPow_10_29, hPow_10_30, hEq_i, hNe_i, hLen_l, hLen_t, hMin2_i, hMax2_i, hMin3_i, hInt1_b, hInt1_i, hBits_i, hListOf_l, hListOf_t, hTupOf_l, hTupOf_t, gSeqS_def, gSet_def, gRet_def, gIfS_def, gNext_def, gTup_def, gLst_def, List.getElem?_cons_zero, List.getElem?_cons_succ, List.set_cons_zero, List.set_cons_succ, List.length_cons, List.length_nil, Nat.zero_add, Nat.reduceAdd, Nat.reduceLeDiff, Nat.reduceSub, Nat.reduceMul, if_true, if_false, Bool.false_eq_true, List.replicate_succ, List.replicate_zero, List.cons_append, List.nil_append, tgN, tgT, tgCons, tgNil, Int.reducePow, Int.reduceAdd, Int.reduceSub, Int.reduceMul, decide_true, decide_false, Bool.not_true, Bool.not_false, gChain_def, hIsa_int, hIsa_intb, hIsa_list, hIsa_tuple, gDrop_def, e0, c'], by omega, by omega⟩
  rw [seq_nx hn]
  -- many
  rw [seq_nx (ρ' := [.list (ns.map .int), .int most, .int n, .int (x1 % 13), .none, .none, .none, .none, .none, .none]) (by simp (disch := omega) only [bnd_ok, gVar_def, gC_def, gOp_def, gUn_def, gNil_def, gCons_def, gIf_def, gTest_def, gNot_def, gAnd_def, gOr_def, gAndV_def, gOrV_def, gNotV_def, gCB_def, asB_b, hAdd_i, hSub_i, hLt_i, hLe_i, hGt_i, hGe_i, hMul_r, hMul_l, hMod_i, hDiv_s, hBand_i, hShr_i, hPow_10_18, hPow_10_27, hPow_10_28, hPow_10_29, hPow_10_30, hEq_i, hNe_i, hLen_l, hLen_t, hMin2_i, hMax2_i, hMin3_i, hInt1_b, hInt1_i, hBits_i, hListOf_l, hListOf_t, hTupOf_l, hTupOf_t, gSeqS_def, gSet_def, gRet_def, gIfS_def, gNext_def, gTup_def, gLst_def, List.getElem?_cons_zero, List.getElem?_cons_succ, List.set_cons_zero, List.set_cons_succ, List.length_cons, List.length_nil, Nat.zero_add, Nat.reduceAdd, Nat.reduceLeDiff, Nat.reduceSub, Nat.reduceMul, if_true, if_false, Bool.false_eq_true, List.replicate_succ, List.replicate_zero, List.cons_append, List.nil_append, tgN, tgT, tgCons, tgNil, Int.reducePow, Int.reduceAdd, Int.reduceSub, Int.reduceMul, decide_true, decide_false, Bool.not_true, Bool.not_false, gChain_def, hIsa_int, hIsa_intb, hIsa_list, hIsa_tuple, gDrop_def, e1])]
  obtain ⟨many, hm, m0, m60⟩ : ∃ n', gIfS (gTest (gOp hEq (gOp hMod (gOp hDiv (gOp hIx (gVar 0) (gC (.int (1)))) (gC (.int (13)))) (gC (.int (8)))) (gC (.int (1))))) (gSet 3 (gOp hAdd (gC (.int (13))) (gOp hMod (gOp hDiv (gOp hIx (gVar 0) (gC (.int (1)))) (gC (.int (104)))) (gC (.int (48)))))) gNext
      [.list (ns.map .int), .int most, .int n, .int (x1 % 13), .none, .none, .none, .none, .none, .none] = .ok (.nx [.list (ns.map .int), .int most, .int n, .int n', .none, .none, .none, .none, .none, .none]) ∧ 0 ≤ n' ∧ n' ≤ 60 := by
    by_cases c : x1 / 13 % 8 = 1
    · exact ⟨13 + x1 / 104 % 48, by simp (disch := omega) only [bnd_ok, gVar_def, gC_def, gOp_def, gUn_def, gNil_def, gCons_def, gIf_def, gTest_def, gNot_def, gAnd_def, gOr_def, gAndV_def, gOrV_def, gNotV_def, gCB_def, asB_b, hAdd_i, hSub_i, hLt_i, hLe_i, hGt_i, hGe_i, hMul_r, hMul_l, hMod_i, hDiv_s, hBand_i, hShr_i, hPow_10_18, hPow_10_27, hPow_10_28, hPow_10_29, hPow_10_30, hEq_i, hNe_i, hLen_l, hLen_t, hMin2_i, hMax2_i, hMin3_i, hInt1_b, hInt1_i, hBits_i, hListOf_l, hListOf_t, hTupOf_l, hTupOf_t, gSeqS_def, gSet_def, gRet_def, gIfS_def, gNext_def, gTup_def, gLst_def, List.getElem?_cons_zero, List.getElem?_cons_succ, List.set_cons_zero, List.set_cons_succ, List.length_cons, List.length_nil, Nat.zero_add, Nat.reduceAdd, Nat.reduceLeDiff, Nat.reduceSub, Nat.reduceMul, if_true, if_false, Bool.false_eq_true, List.replicate_succ, List.replicate_zero, List.cons_append, List.nil_append, tgN, tgT, tgCons, tgNil, Int.reducePow, Int.reduceAdd, Int.reduceSub, Int.reduceMul, decide_true, decide_false, Bool.not_true, Bool.not_false, gChain_def, hIsa_int, hIsa_intb, hIsa_list, hIsa_tuple, gDrop_def, e1, c, beq_self_eq_true], by omega, by omega⟩
    · have c' : (x1 / 13 % 8 == 1) = false := beq_eq_false_iff_ne.mpr c
      exact ⟨x1 % 13, by simp (disch := omega) only [bnd_ok, gVar_def, gC_def, gOp_def, gUn_def, gNil_def, gCons_def, gIf_def, gTest_def, gNot_def, gAnd_def, gOr_def, gAndV_def, gOrV_def, gNotV_def, gCB_def, asB_b, hAdd_i, hSub_i, hLt_i, hLe_i, hGt_i, hGe_i, hMul_r, hMul_l, hMod_i, hDiv_s, hBand_i, hShr_i, hPow_10_18, hPow_10_27, hPow_10_28, hPow_10_29, hPow_10_30, hEq_i, hNe_i, hLen_l, hLen_t, hMin2_i, hMax2_i, hMin3_i, hInt1_b, hInt1_i, hBits_i, hListOf_l, hListOf_t, hTupOf_l, hTupOf_t, gSeqS_def, gSet_def, gRet_def, gIfS_def, gNext_def, gTup_def, gLst_def, List.getElem?_cons_zero, List.getElem?_cons_succ, List.set_cons_zero, List.set_cons_succ, List.length_cons, List.length_nil, Nat.zero_add, Nat.reduceAdd, Nat.reduceLeDiff, Nat.reduceSub, Nat.reduceMul, if_true, if_false, Bool.false_eq_true, List.replicate_succ, List.replicate_zero, List.cons_append, List.nil_append, tgN, tgT, tgCons, tgNil, Int.reducePow, Int.reduceAdd, Int.reduceSub, Int.reduceMul, decide_true, decide_false, Bool.not_true, Bool.not_false, gChain_def, hIsa_int, hIsa_intb, hIsa_list, hIsa_tuple, gDrop_def, e1, c'], by omega, by omega⟩
  rw [seq_nx hm]
  -- wide, moment
  obtain ⟨wd, hw, w0, w1⟩ : ∃ wd, gSet 4 (gOp hIx (gLst (gCons (gC (.int (1))) (gCons (gC (.int (4))) (gCons (gOp hPow (gC (.int (10))) (gC (.int (28)))) (gNil))))) (gOp hMod (gOp hIx (gVar 0) (gC (.int (2)))) (gC (.int (3)))))
      [.list (ns.map .int), .int most, .int n, .int many, .none, .none, .none, .none, .none, .none] = .ok (.nx [.list (ns.map .int), .int most, .int n, .int many, .int wd, .none, .none, .none, .none, .none]) ∧ 0 < wd ∧ wd ≤ 10000000000000000000000000000 := by
    refine ⟨if x2 % 3 = 0 then 1 else if x2 % 3 = 1 then 4 else 10000000000000000000000000000, by simp (disch := omega) only [bnd_ok, gVar_def, gC_def, gOp_def, gUn_def, gNil_def, gCons_def, gIf_def, gTest_def, gNot_def, gAnd_def, gOr_def, gAndV_def, gOrV_def, gNotV_def, gCB_def, asB_b, hAdd_i, hSub_i, hLt_i, hLe_i, hGt_i, hGe_i, hMul_r, hMul_l, hMod_i, hDiv_s, hBand_i, hShr_i, hPow_10_18, hPow_10_27, hPow_10_28, hPow_10_29, hPow_10_30, hEq_i, hNe_i, hLen_l, hLen_t, hMin2_i, hMax2_i, hMin3_i, hInt1_b, hInt1_i, hBits_i, hListOf_l, hListOf_t, hTupOf_l, hTupOf_t, gSeqS_def, gSet_def, gRet_def, gIfS_def, gNext_def, gTup_def, gLst_def, List.getElem?_cons_zero, List.getElem?_cons_succ, List.set_cons_zero, List.set_cons_succ, List.length_cons, List.length_nil, Nat.zero_add, Nat.reduceAdd, Nat.reduceLeDiff, Nat.reduceSub, Nat.reduceMul, if_true, if_false, Bool.false_eq_true, List.replicate_succ, List.replicate_zero, List.cons_append, List.nil_append, tgN, tgT, tgCons, tgNil, Int.reducePow, Int.reduceAdd, Int.reduceSub, Int.reduceMul, decide_true, decide_false, Bool.not_true, Bool.not_false, gChain_def, hIsa_int, hIsa_intb, hIsa_list, hIsa_tuple, gDrop_def, e2, ix3], ?_, ?_⟩
    · split <;> (try split) <;> omega
    · split <;> (try split) <;> omega
  rw [seq_nx hw]
  obtain ⟨mo, hmo, mo0, mo1⟩ : ∃ mo, gSet 5 (gOp hIx (gLst (gCons (gC (.int (0))) (gCons (gOp hMod (gOp hDiv (gOp hIx (gVar 0) (gC (.int (2)))) (gC (.int (12)))) (gC (.int (100)))) (gCons (gOp hMod (gOp hIx (gVar 0) (gC (.int (3)))) (gOp hPow (gC (.int (10))) (gC (.int (29))))) (gNil))))) (gOp hMod (gOp hDiv (gOp hIx (gVar 0) (gC (.int (2)))) (gC (.int (3)))) (gC (.int (3)))))
      [.list (ns.map .int), .int most, .int n, .int many, .int wd, .none, .none, .none, .none, .none] = .ok (.nx [.list (ns.map .int), .int most, .int n, .int many, .int wd, .int mo, .none, .none, .none, .none]) ∧ 0 ≤ mo ∧ mo ≤ 100000000000000000000000000000 := by
    refine ⟨if x2 / 3 % 3 = 0 then 0 else if x2 / 3 % 3 = 1 then x2 / 12 % 100 else x3 % 100000000000000000000000000000, by simp (disch := omega) only [bnd_ok, gVar_def, gC_def, gOp_def, gUn_def, gNil_def, gCons_def, gIf_def, gTest_def, gNot_def, gAnd_def, gOr_def, gAndV_def, gOrV_def, gNotV_def, gCB_def, asB_b, hAdd_i, hSub_i, hLt_i, hLe_i, hGt_i, hGe_i, hMul_r, hMul_l, hMod_i, hDiv_s, hBand_i, hShr_i, hPow_10_18, hPow_10_27, hPow_10_28, hPow_10_29, hPow_10_30, hEq_i, hNe_i, hLen_l, hLen_t, hMin2_i, hMax2_i, hMin3_i, hInt1_b, hInt1_i, hBits_i, hListOf_l, hListOf_t, hTupOf_l, hTupOf_t, gSeqS_def, gSet_def, gRet_def, gIfS_def, gNext_def, gTup_def, gLst_def, List.getElem?_cons_zero, List.getElem?_cons_succ, List.set_cons_zero, List.set_cons_succ, List.length_cons, List.length_nil, Nat.zero_add, Nat.reduceAdd, Nat.reduceLeDiff, Nat.reduceSub, Nat.reduceMul, if_true, if_false, Bool.false_eq_true, List.replicate_succ, List.replicate_zero, List.cons_append, List.nil_append, tgN, tgT, tgCons, tgNil, Int.reducePow, Int.reduceAdd, Int.reduceSub, Int.reduceMul, decide_true, decide_false, Bool.not_true, Bool.not_false, gChain_def, hIsa_int, hIsa_intb, hIsa_list, hIsa_tuple, gDrop_def, e2, e3, ix3], ?_, ?_⟩
    · split <;> (try split) <;> omega
    · split <;> (try split) <;> omega
  rw [seq_nx hmo]
  rw [seq_nx (ρ' := [.list (ns.map .int), .int most, .int n, .int many, .int wd, .int mo, .list [], .none, .none, .none]) (by simp (disch := omega) only [bnd_ok, gVar_def, gC_def, gOp_def, gUn_def, gNil_def, gCons_def, gIf_def, gTest_def, gNot_def, gAnd_def, gOr_def, gAndV_def, gOrV_def, gNotV_def, gCB_def, asB_b, hAdd_i, hSub_i, hLt_i, hLe_i, hGt_i, hGe_i, hMul_r, hMul_l, hMod_i, hDiv_s, hBand_i, hShr_i, hPow_10_18, hPow_10_27, hPow_10_28, hPow_10_29, hPow_10_30, hEq_i, hNe_i, hLen_l, hLen_t, hMin2_i, hMax2_i, hMin3_i, hInt1_b, hInt1_i, hBits_i, hListOf_l, hListOf_t, hTupOf_l, hTupOf_t, gSeqS_def, gSet_def, gRet_def, gIfS_def, gNext_def, gTup_def, gLst_def, List.getElem?_cons_zero, List.getElem?_cons_succ, List.set_cons_zero, List.set_cons_succ, List.length_cons, List.length_nil, Nat.zero_add, Nat.reduceAdd, Nat.reduceLeDiff, Nat.reduceSub, Nat.reduceMul, if_true, if_false, Bool.false_eq_true, List.replicate_succ, List.replicate_zero, List.cons_append, List.nil_append, tgN, tgT, tgCons, tgNil, Int.reducePow, Int.reduceAdd, Int.reduceSub, Int.reduceMul, decide_true, decide_false, Bool.not_true, Bool.not_false, gChain_def, hIsa_int, hIsa_intb, hIsa_list, hIsa_tuple, gDrop_def, Nat.zero_le])]
  -- the loop
  obtain ⟨cnt, hc, c0, c1, c2⟩ : ∃ cnt : Nat, gRng1 (gCons (gCB hMin3 (gCons (gVar 3) (gCons (gVar 1) (gCons (gOp hDiv (gOp hSub (gCB hLen (gCons (gVar 0) (gNil))) (gC (.int (4)))) (gC (.int (3)))) (gNil))))) (gNil))
      [.list (ns.map .int), .int most, .int n, .int many, .int wd, .int mo, .list [], .none, .none, .none] = .ok ((List.range cnt).map fun (k : Nat) => PyData.int (k : Int)) ∧ (cnt : Int) ≤ most ∧ cnt ≤ 60 ∧ 3 * cnt + 4 ≤ ns.length := by
    generalize hq : (if most < many then (if ((ns.length : Int) - 4) / 3 < most then ((ns.length : Int) - 4) / 3 else most) else (if ((ns.length : Int) - 4) / 3 < many then ((ns.length : Int) - 4) / 3 else many)) = q
    have q0 : 0 ≤ q ∧ q ≤ most ∧ q ≤ 60 ∧ 3 * q + 4 ≤ ns.length := by
      split at hq <;> split at hq <;> omega
    refine ⟨q.toNat, ?_, by omega, by omega, by omega⟩
    rw [← rangeD_nat, show ((q.toNat : Nat) : Int) = q by omega]
    refine rng1_ok ?_ (by omega) (by omega)
    simp (disch := omega) only [bnd_ok, gVar_def, gC_def, gOp_def, gUn_def, gNil_def, gCons_def, gIf_def, gTest_def, gNot_def, gAnd_def, gOr_def, gAndV_def, gOrV_def, gNotV_def, gCB_def, asB_b, hAdd_i, hSub_i, hLt_i, hLe_i, hGt_i, hGe_i, hMul_r, hMul_l, hMod_i, hDiv_s, hBand_i, hShr_i, hPow_10_18, hPow_10_27, hPow_10_28, hPow_10_29, hPow_10_30, hEq_i, hNe_i, hLen_l, hLen_t, hMin2_i, hMax2_i, hMin3_i, hInt1_b, hInt1_i, hBits_i, hListOf_l, hListOf_t, hTupOf_l, hTupOf_t, gSeqS_def, gSet_def, gRet_def, gIfS_def, gNext_def, gTup_def, gLst_def, List.getElem?_cons_zero, List.getElem?_cons_succ, List.set_cons_zero, List.set_cons_succ, List.length_cons, List.length_nil, Nat.zero_add, Nat.reduceAdd, Nat.reduceLeDiff, Nat.reduceSub, Nat.reduceMul, if_true, if_false, Bool.false_eq_true, List.replicate_succ, List.replicate_zero, List.cons_append, List.nil_append, tgN, tgT, tgCons, tgNil, Int.reducePow, Int.reduceAdd, Int.reduceSub, Int.reduceMul, decide_true, decide_false, Bool.not_true, Bool.not_false, gChain_def, hIsa_int, hIsa_intb, hIsa_list, hIsa_tuple, gDrop_def, List.length_map, hq]
  obtain ⟨ρ', hf, r, m', d7, d8, d9, rfl, hl', hm', hm2, ht, ho, hlt⟩ := forE_ix (fun (k : Nat) => PyData.int (k : Int)) (h := tgN 7) (b := rB) (List.range cnt)
    (fun i ρ => ∃ (r : List T3) (m : Int) (d7 d8 d9 : Dt), ρ = [.list (ns.map .int), .int most, .int n, .int many, .int wd, .int m, .list (r.map enc3), d7, d8, d9] ∧ r.length = i ∧ 0 ≤ m ∧ m ≤ 100000000000000000000000000000 + i * 10000000000000000000000000000 ∧ (∀ t ∈ r, TieOk n t) ∧ (r.Pairwise fun s t => s.1 < t.1) ∧ ∀ t ∈ r, t.1 < m)
    (ρ := [.list (ns.map .int), .int most, .int n, .int many, .int wd, .int mo, .list [], .none, .none, .none]) ⟨[], mo, _, _, _, rfl, rfl, mo0, by omega, by simp, .nil, by simp⟩ (by
      rintro i ρ hi ⟨r, m, d7, d8, d9, rfl, hl', hm', hm2, ht, ho, hlt⟩
      rw [List.getElem_range]
      rw [List.length_range] at hi
      obtain ⟨t, m2, e8, e9, hB, t1, t2, t3, t4, t5, t6⟩ := rB_ok hns hl (k := i) (by omega) n1 w0 hm' (r := r) (by omega) (.int most) (.int many) d8 d9
      have tok : TieOk n t := ⟨by omega, by unfold B30; omega, t2, t3, t4⟩
      obtain ⟨s1, s2⟩ := rec_snoc ht ho tok (fun s hs => by rw [t1]; exact hlt s hs)
      refine ⟨_, _, rfl, .inl hB, r ++ [t], m2, _, _, _, rfl, by rw [List.length_append, hl']; rfl, by omega, by omega, s1, s2, fun s hs => ?_⟩
      rcases List.mem_append.mp hs with h | h
      · have := hlt s h; omega
      · rw [List.mem_singleton.mp h]; omega)
  rw [List.length_range] at hl'
  refine ⟨n, r, (seq_nx (b := gRet (gTup (gCons (gVar 2) (gCons (gVar 6) gNil)))) (for_ok hc hf)).trans ?_, n1, n10, ⟨by omega, ht, ho⟩, by omega⟩
  simp only [bnd_ok, gVar_def, gC_def, gOp_def, gUn_def, gNil_def, gCons_def, gIf_def, gTest_def, gNot_def, gAnd_def, gOr_def, gAndV_def, gOrV_def, gNotV_def, gCB_def, asB_b, hAdd_i, hSub_i, hLt_i, hLe_i, hGt_i, hGe_i, hMul_r, hMul_l, hMod_i, hDiv_s, hBand_i, hShr_i, hPow_10_18, hPow_10_27, hPow_10_28, hPow_10_29, hPow_10_30, hEq_i, hNe_i, hLen_l, hLen_t, hMin2_i, hMax2_i, hMin3_i, hInt1_b, hInt1_i, hBits_i, hListOf_l, hListOf_t, hTupOf_l, hTupOf_t, gSeqS_def, gSet_def, gRet_def, gIfS_def, gNext_def, gTup_def, gLst_def, List.getElem?_cons_zero, List.getElem?_cons_succ, List.set_cons_zero, List.set_cons_succ, List.length_cons, List.length_nil, Nat.zero_add, Nat.reduceAdd, Nat.reduceLeDiff, Nat.reduceSub, Nat.reduceMul, if_true, if_false, Bool.false_eq_true, List.replicate_succ, List.replicate_zero, List.cons_append, List.nil_append, tgN, tgT, tgCons, tgNil, Int.reducePow, Int.reduceAdd, Int.reduceSub, Int.reduceMul, decide_true, decide_false, Bool.not_true, Bool.not_false, gChain_def, hIsa_int, hIsa_intb, hIsa_list, hIsa_tuple, gDrop_def]
end FamA
end T_FamAP

section T_FamL
set_option linter.all false
namespace FamL
open PySem Sim
def g_is_whole : Gs := gRet (gAndV (gUn (hIsa .int) (gVar 0)) (gNotV (gUn (hIsa .bool) (gVar 0))))
def f_is_whole : List Dt → O Dt := fnN 1 g_is_whole
def g_joined : Gs := gSeqS (gSet 3 (gCB hMin2 (gCons (gOp hIx (gVar 0) (gVar 1)) (gCons (gOp hIx (gVar 0) (gVar 2)) (gNil))))) (gSeqS (gSet 4 (gCB hMax2 (gCons (gOp hIx (gVar 0) (gVar 1)) (gCons (gOp hIx (gVar 0) (gVar 2)) (gNil))))) (gRet (gPurN (gLc (gSeq (gVar 0)) (tgN 5) (gYes) (gIf (gTest (gOp hEq (gVar 5) (gVar 4))) (gVar 3) (gVar 5))))))
def f_joined : List Dt → O Dt := fnL 6 g_joined
def g_is_depth : Gs := gRet (gAndV (gCallN 1 f_is_whole (gCons (gVar 0) (gNil))) (gChain hLe hLe (gC (.int (1))) (gVar 0) (gC (.int (6)))))
def f_is_depth : List Dt → O Dt := fnN 1 g_is_depth
def g_look_at_layers : Gs := gIfS (gNot (gTest (gCallN 1 f_is_depth (gCons (gVar 0) (gNil))))) (gBad) (gNext)
def f_look_at_layers : List Dt → O Dt := fnN 1 g_look_at_layers
def g_layer_for_L1 : Gs := gIfS (gTest (gOp hNe (gOp hIx (gVar 4) (gVar 1)) (gOp hIx (gVar 4) (gVar 2)))) (gRet (gOp hAdd (gVar 3) (gC (.int (1))))) (gNext)
def g_layer_for : Gs := gSeqS (gFor (gEnum (gCons (gVar 0) (gNil))) (tgT (tgCons (tgN 3) (tgCons (tgN 4) (tgNil)))) g_layer_for_L1) (gRet (gC (.int (0))))
def f_layer_for : List Dt → O Dt := fnN 5 g_layer_for
def g_layered_L1 : Gs := gSeqS (gSet 4 (gCallN 3 f_layer_for (gCons (gVar 3) (gCons (gVar 7) (gCons (gVar 8) (gNil)))))) (gSeqS (gIfS (gTest (gOp hGt (gVar 4) (gC (.int (0))))) (gSetI 3 (gCallN 3 f_joined (gCons (gOp hIx (gVar 3) (gOp hSub (gVar 4) (gC (.int (1))))) (gCons (gVar 7) (gCons (gVar 8) (gNil))))) (gOp hSub (gVar 4) (gC (.int (1))))) (gNext)) (gApp 5 (gVar 4)))
def g_layered : Gs := gSeqS (gDrop (gCallN 1 f_look_at_layers (gCons (gVar 2) (gNil)))) (gSeqS (gSet 3 (gLc (gRng1 (gCons (gVar 2) (gNil))) (tgN 4) (gYes) (gLsI (gRng1 (gCons (gVar 0) gNil))))) (gSeqS (gSet 5 (gLst (gNil))) (gSeqS (gFor (gRev (gCons (gVar 1) (gNil))) (tgT (tgCons (tgN 6) (tgCons (tgN 7) (tgCons (tgN 8) (tgNil))))) g_layered_L1) (gRet (gLsI (gRev (gCons (gVar 5) gNil)))))))
def f_layered : List Dt → O Dt := fnL 9 g_layered
def g_l_depth : Gs := gRet (gOp hIx (gLst (gCons (gOp hAdd (gC (.int (1))) (gOp hMod (gVar 0) (gC (.int (4))))) (gCons (gOp hAdd (gC (.int (1))) (gOp hMod (gOp hDiv (gVar 0) (gC (.int (32)))) (gC (.int (6))))) (gNil)))) (gCB hInt1 (gCons (gOp hEq (gOp hMod (gVar 0) (gC (.int (8)))) (gC (.int (1)))) (gNil))))
def f_l_depth : List Dt → O Dt := fnN 1 g_l_depth
end FamL
end T_FamL

section T_ConnP
set_option linter.all false
set_option maxRecDepth 100000
/-! ConnP: places joined by ties; marks; layers. Plain. -/
namespace Lay
open PySem Sim FamA

def E2 (ts : List T3) (b c : Int) : Prop := ∃ t ∈ ts, (t.2.1 = b ∧ t.2.2 = c) ∨ (t.2.1 = c ∧ t.2.2 = b)
inductive Conn (ts : List T3) : Int → Int → Prop
  | refl (a : Int) : Conn ts a a
  | step {a b c : Int} : Conn ts a b → E2 ts b c → Conn ts a c
section
variable {ts ts' : List T3} {a b c p q n : Int} {t : T3} {ms : List Int}
theorem E2.symm (h : E2 ts b c) : E2 ts c b := by
  obtain ⟨t, h1, h2⟩ := h
  exact ⟨t, h1, h2.symm⟩
theorem Conn.one (h : E2 ts a b) : Conn ts a b := .step (.refl a) h
theorem Conn.trans (h : Conn ts a b) (k : Conn ts b c) : Conn ts a c := by
  induction k with
  | refl => exact h
  | step _ e ih => exact .step ih e
theorem Conn.symm (h : Conn ts a b) : Conn ts b a := by
  induction h with
  | refl => exact .refl _
  | step _ e ih => exact (Conn.one e.symm).trans ih
theorem Conn.mono (h : ∀ b c, E2 ts b c → Conn ts' b c) (k : Conn ts a b) : Conn ts' a b := by
  induction k with
  | refl => exact .refl _
  | step _ e ih => exact ih.trans (h _ _ e)
theorem Conn.sub (h : ∀ t ∈ ts, t ∈ ts') (k : Conn ts a b) : Conn ts' a b := k.mono fun b c ⟨t, h1, h2⟩ => .one ⟨t, h t h1, h2⟩
theorem conn_mem (h : ∀ t, t ∈ ts ↔ t ∈ ts') : Conn ts a b ↔ Conn ts' a b := ⟨fun k => k.sub fun t => (h t).mp, fun k => k.sub fun t => (h t).mpr⟩
theorem conn_nil : Conn [] a b ↔ a = b := by
  constructor
  · intro h
    cases h with
    | refl => rfl
    | step _ e => obtain ⟨t, h1, _⟩ := e; cases h1
  · rintro rfl; exact .refl _
theorem conn_cons : Conn (t :: ts) p q ↔ Conn ts p q ∨ (Conn ts p t.2.1 ∧ Conn ts t.2.2 q) ∨ (Conn ts p t.2.2 ∧ Conn ts t.2.1 q) := by
  constructor
  · intro h
    induction h with
    | refl => exact .inl (.refl _)
    | step _ e ih =>
      obtain ⟨s, hs, e⟩ := e
      rcases List.mem_cons.mp hs with rfl | hs
      · rcases e with ⟨rfl, rfl⟩ | ⟨rfl, rfl⟩
        · rcases ih with h | ⟨h, _⟩ | ⟨h, _⟩
          · exact .inr (.inl ⟨h, .refl _⟩)
          · exact .inr (.inl ⟨h, .refl _⟩)
          · exact .inl h
        · rcases ih with h | ⟨h, _⟩ | ⟨h, _⟩
          · exact .inr (.inr ⟨h, .refl _⟩)
          · exact .inl h
          · exact .inr (.inr ⟨h, .refl _⟩)
      · have e := Conn.one (ts := ts) ⟨s, hs, e⟩
        rcases ih with h | ⟨h, k⟩ | ⟨h, k⟩
        · exact .inl (h.trans e)
        · exact .inr (.inl ⟨h, k.trans e⟩)
        · exact .inr (.inr ⟨h, k.trans e⟩)
  · have up : ∀ {x y}, Conn ts x y → Conn (t :: ts) x y := fun h => h.sub fun _ => List.mem_cons_of_mem _
    have e : Conn (t :: ts) t.2.1 t.2.2 := .one ⟨t, List.mem_cons_self, .inl ⟨rfl, rfl⟩⟩
    rintro (h | ⟨h, k⟩ | ⟨h, k⟩)
    · exact up h
    · exact (up h).trans (e.trans (up k))
    · exact (up h).trans (e.symm.trans (up k))

/-! ### marks -/
def gx (ms : List Int) (a : Int) : Int := ms.getD a.toNat 0
structure MK (n : Int) (ms : List Int) (ts : List T3) : Prop where
  len : ms.length = n.toNat
  ker : ∀ a b, 0 ≤ a → a < n → 0 ≤ b → b < n → (gx ms a = gx ms b ↔ Conn ts a b)
theorem gx_map (f : Int → Int) (h0 : 0 ≤ a) (h1 : a.toNat < ms.length) : gx (ms.map f) a = f (gx ms a) := by
  unfold gx
  rw [List.getD_eq_getElem?_getD, List.getD_eq_getElem?_getD, List.getElem?_map, List.getElem?_eq_getElem h1]
  rfl
theorem gx_pl (h0 : 0 ≤ a) (h1 : a < n) : gx (pl n) a = a := by
  unfold gx pl
  rw [List.getD_eq_getElem?_getD, List.getElem?_map, List.getElem?_range (by omega)]
  show ((a.toNat : Nat) : Int) = a
  omega
theorem MK.zero : MK n (pl n) [] := ⟨pl_len n, fun a b a0 an b0 bn => by rw [gx_pl a0 an, gx_pl b0 bn, conn_nil]⟩
theorem MK.step (h : MK n ms ts) (a0 : 0 ≤ t.2.1) (a1 : t.2.1 < n) (b0 : 0 ≤ t.2.2) (b1 : t.2.2 < n) {x y : Int}
    (hxy : (x = gx ms t.2.1 ∧ y = gx ms t.2.2) ∨ (x = gx ms t.2.2 ∧ y = gx ms t.2.1)) : MK n (ms.map fun m => if m = x then y else m) (t :: ts) := by
  refine ⟨by rw [List.length_map]; exact h.len, fun p q p0 pn q0 qn => ?_⟩
  rw [gx_map _ p0 (by rw [h.len]; omega), gx_map _ q0 (by rw [h.len]; omega), conn_cons, ← h.ker p q p0 pn q0 qn, ← h.ker p _ p0 pn a0 a1, ← h.ker _ q b0 b1 q0 qn, ← h.ker p _ p0 pn b0 b1, ← h.ker _ q a0 a1 q0 qn]
  generalize gx ms p = u at *
  generalize gx ms q = v at *
  generalize gx ms t.2.1 = A at *
  generalize gx ms t.2.2 = B at *
  rcases hxy with ⟨rfl, rfl⟩ | ⟨rfl, rfl⟩
  · split <;> split <;> constructor <;> intro h <;> omega
  · split <;> split <;> constructor <;> intro h <;> omega
theorem MK.mem (h : MK n ms ts) (e : ∀ t, t ∈ ts ↔ t ∈ ts') : MK n ms ts' := ⟨h.len, fun a b a0 an b0 bn => (h.ker a b a0 an b0 bn).trans (conn_mem e)⟩

/-! ### layers -/
def layer (j : Int) (s : List T3) (ns : List Int) : List T3 := ((s.zip ns).filter fun p => p.2 == j).map (·.1)
open Classical in
noncomputable def fj (p : Nat → Prop) (lo : Nat) : Nat → Int
  | 0 => 0
  | m + 1 => if p lo then (lo : Int) + 1 else fj p (lo + 1) m
noncomputable def num (k : Nat) (s : List T3) (ns : List Int) (a b : Int) : Int := fj (fun j => ¬ Conn (layer ((j : Int) + 1) s ns) a b) 0 k
noncomputable def lay (k : Nat) : List T3 → List Int
  | [] => []
  | t :: s => num k s (lay k s) t.2.1 t.2.2 :: lay k s
theorem lay_len (k : Nat) : ∀ r, (lay k r).length = r.length
  | [] => rfl
  | t :: s => by unfold lay; rw [List.length_cons, List.length_cons, lay_len k s]
theorem lay_cons (k : Nat) (t : T3) (s : List T3) : lay k (t :: s) = num k s (lay k s) t.2.1 t.2.2 :: lay k s := rfl
theorem layer_cons (j x : Int) (t : T3) (s : List T3) (ns : List Int) : layer j (t :: s) (x :: ns) = if x = j then t :: layer j s ns else layer j s ns := by
  unfold layer
  rw [List.zip_cons_cons, List.filter_cons]
  by_cases h : x = j
  · simp [h]
  · simp [h]
theorem fj_zero (p : Nat → Prop) (lo : Nat) : fj p lo 0 = 0 := rfl
theorem fj_t {p : Nat → Prop} {lo : Nat} (m : Nat) (h : p lo) : fj p lo (m + 1) = (lo : Int) + 1 := by unfold fj; rw [if_pos h]
theorem fj_f {p : Nat → Prop} {lo : Nat} (m : Nat) (h : ¬ p lo) : fj p lo (m + 1) = fj p (lo + 1) m := by
  conv => lhs; unfold fj
  exact if_neg h
theorem fj_range (p : Nat → Prop) : ∀ (m lo : Nat), fj p lo m = 0 ∨ ((lo : Int) < fj p lo m ∧ fj p lo m ≤ (lo : Int) + m)
  | 0, _ => .inl rfl
  | m + 1, lo => by
    by_cases h : p lo
    · rw [fj_t m h]; exact .inr ⟨by omega, by omega⟩
    · rw [fj_f m h]
      rcases fj_range p m (lo + 1) with e | ⟨e1, e2⟩
      · exact .inl e
      · exact .inr ⟨by omega, by omega⟩
theorem fj_congr {p q : Nat → Prop} : ∀ (m lo : Nat), (∀ i, lo ≤ i → i < lo + m → (p i ↔ q i)) → fj p lo m = fj q lo m
  | 0, _, _ => rfl
  | m + 1, lo, h => by
    have e := fj_congr (p := p) (q := q) m (lo + 1) fun i h1 h2 => h i (by omega) (by omega)
    by_cases c : p lo
    · rw [fj_t m c, fj_t m ((h lo (by omega) (by omega)).mp c)]
    · rw [fj_f m c, fj_f m (fun z => c ((h lo (by omega) (by omega)).mpr z)), e]
theorem num_range (k : Nat) (s : List T3) (ns : List Int) (a b : Int) : 0 ≤ num k s ns a b ∧ num k s ns a b ≤ k := by
  unfold num
  rcases fj_range (fun j => ¬ Conn (layer ((j : Int) + 1) s ns) a b) k 0 with e | ⟨e1, e2⟩
  · rw [e]; omega
  · omega
theorem lay_range (k : Nat) : ∀ (r : List T3) (x : Int), x ∈ lay k r → 0 ≤ x ∧ x ≤ k
  | t :: s, x, h => by
    rw [lay_cons] at h
    rcases List.mem_cons.mp h with rfl | h
    · exact num_range k s _ _ _
    · exact lay_range k s x h
/-- the first row whose marks differ -/
def lfr (a b : Int) : List (List Int) → Nat → Int
  | [], _ => 0
  | ms :: rows, lo => if gx ms a = gx ms b then lfr a b rows (lo + 1) else (lo : Int) + 1
theorem lfr_fj (p : Nat → Prop) : ∀ (rows : List (List Int)) (lo : Nat), (∀ i (h : i < rows.length), gx rows[i] a = gx rows[i] b ↔ ¬ p (lo + i)) → lfr a b rows lo = fj p lo rows.length
  | [], _, _ => rfl
  | ms :: rows, lo, h => by
    have h0 := h 0 (by rw [List.length_cons]; omega)
    have e := lfr_fj p rows (lo + 1) fun i hi => by
      have := h (i + 1) (by rw [List.length_cons]; omega)
      rw [List.getElem_cons_succ] at this
      rw [this, show lo + 1 + i = lo + (i + 1) by omega]
    rw [List.getElem_cons_zero, Nat.add_zero] at h0
    unfold lfr
    rw [List.length_cons]
    by_cases c : gx ms a = gx ms b
    · rw [if_pos c, fj_f _ (h0.mp c), e]
    · rw [if_neg c, fj_t _ (Classical.byContradiction fun z => c (h0.mpr z))]
/-- the rows stand for the layers -/
structure RowsOk (n : Int) (k : Nat) (rows : List (List Int)) (s : List T3) : Prop where
  len : rows.length = k
  mkr : ∀ j (h : j < rows.length), MK n rows[j] (layer ((j : Int) + 1) s (lay k s))
theorem RowsOk.zero {k : Nat} : RowsOk n k (List.replicate k (pl n)) [] := ⟨List.length_replicate .., fun j h => by
  rw [List.getElem_replicate]
  exact MK.zero⟩
theorem RowsOk.num {k : Nat} {rows : List (List Int)} {s : List T3} (h : RowsOk n k rows s) (a0 : 0 ≤ a) (an : a < n) (b0 : 0 ≤ b) (bn : b < n) : lfr a b rows 0 = num k s (lay k s) a b := by
  rw [lfr_fj (fun j => ¬ Conn (layer ((j : Int) + 1) s (lay k s)) a b) rows 0 fun i hi => ?_, h.len]
  · rfl
  · rw [Nat.zero_add, Classical.not_not]
    exact (h.mkr i hi).ker a b a0 an b0 bn
theorem RowsOk.stay {k : Nat} {rows : List (List Int)} {s : List T3} (h : RowsOk n k rows s) (e : Lay.num k s (lay k s) t.2.1 t.2.2 = 0) : RowsOk n k rows (t :: s) := ⟨h.len, fun j hj => by
  rw [lay_cons, layer_cons, if_neg (by omega)]
  exact h.mkr j hj⟩
theorem RowsOk.put {k : Nat} {rows : List (List Int)} {s : List T3} (h : RowsOk n k rows s) (a0 : 0 ≤ t.2.1) (a1 : t.2.1 < n) (b0 : 0 ≤ t.2.2) (b1 : t.2.2 < n) {j : Nat} (hj : j < rows.length) (e : Lay.num k s (lay k s) t.2.1 t.2.2 = (j : Int) + 1) {x y : Int}
    (hxy : (x = gx rows[j] t.2.1 ∧ y = gx rows[j] t.2.2) ∨ (x = gx rows[j] t.2.2 ∧ y = gx rows[j] t.2.1)) : RowsOk n k (rows.set j (rows[j].map fun m => if m = x then y else m)) (t :: s) := ⟨by rw [List.length_set]; exact h.len, fun i hi => by
  rw [List.length_set] at hi
  rw [lay_cons, layer_cons, e]
  by_cases c : j = i
  · subst c
    rw [List.getElem_set_self, if_pos rfl]
    exact (h.mkr j hj).step a0 a1 b0 b1 hxy
  · rw [List.getElem_set_ne c, if_neg (by omega)]
    exact h.mkr i hi⟩
end
end Lay
end T_ConnP

section T_FamLP
set_option linter.all false
set_option maxRecDepth 100000
set_option maxHeartbeats 1000000
namespace FamL
open PySem Sim FamA Lay

def encI (ms : List Int) : Dt := .list (ms.map .int)
theorem hIx_gx {ms : List Int} {a : Int} (h0 : 0 ≤ a) (h1 : a.toNat < ms.length) : hIx (.list (ms.map .int)) (.int a) = .ok (.int (gx ms a)) := by
  rw [hIx_ints h0 (by omega)]
  unfold gx
  rw [List.getD_eq_getElem?_getD, List.getElem?_eq_getElem h1]
  rfl
theorem joined_ok {ms : List Int} {a b : Int} (a0 : 0 ≤ a) (a1 : a.toNat < ms.length) (b0 : 0 ≤ b) (b1 : b.toNat < ms.length) (hl : ms.length ≤ 1000) :
    ∃ x y, f_joined [encI ms, .int a, .int b] = .ok (encI (ms.map fun m => if m = x then y else m)) ∧ ((x = gx ms a ∧ y = gx ms b) ∨ (x = gx ms b ∧ y = gx ms a)) := by
  refine ⟨if gx ms b > gx ms a then gx ms b else gx ms a, if gx ms b < gx ms a then gx ms b else gx ms a, ?_, ?_⟩
  · refine fnL_rt ?_
    show g_joined [.list (ms.map .int), .int a, .int b, .none, .none, .none] = _
    unfold g_joined
    have i1 := hIx_gx a0 a1
    have i2 := hIx_gx b0 b1
    apply seq_step
    · simp (disch := first | omega | with_unfolding_all rfl | assumption | decide | (simp only [List.length_cons, List.length_nil]; omega)) only [bnd_ok, gVar_def, gC_def, gOp_def, gUn_def, gNil_def, gCons_def, gIf_def, gTest_def, gNot_def, gAnd_def, gOr_def, gAndV_def, gOrV_def, gNotV_def, gCB_def, asB_b, hAdd_i, hSub_i, hLt_i, hLe_i, hGt_i, hGe_i, hMul_r, hMul_l, hMod_i, hDiv_s, hBand_i, hShr_i, hPow_10_18, hPow_10_27, hPow_10_28, hPow_10_29, hPow_10_30, hEq_i, hNe_i, hLen_l, hLen_t, hMin2_i, hMax2_i, hMin3_i, hInt1_b, hInt1_i, hBits_i, hListOf_l, hListOf_t, hTupOf_l, hTupOf_t, gSeqS_def, gSet_def, gRet_def, gIfS_def, gNext_def, gTup_def, gLst_def, List.getElem?_cons_zero, List.getElem?_cons_succ, List.set_cons_zero, List.set_cons_succ, List.length_cons, List.length_nil, Nat.zero_add, Nat.reduceAdd, Nat.reduceLeDiff, Nat.reduceSub, Nat.reduceMul, if_true, if_false, Bool.false_eq_true, List.replicate_succ, List.replicate_zero, List.cons_append, List.nil_append, tgN, tgT, tgCons, tgNil, Int.reducePow, Int.reduceAdd, Int.reduceSub, Int.reduceMul, decide_true, decide_false, Bool.not_true, Bool.not_false, gChain_def, hIsa_int, hIsa_intb, hIsa_list, hIsa_tuple, gDrop_def, gCallN_def, gAsg_def, gSl_def, gNoPart_def, gPart_def, hSl_from', hSl_to', i1, i2]
      rfl
    apply seq_step
    · simp (disch := first | omega | with_unfolding_all rfl | assumption | decide | (simp only [List.length_cons, List.length_nil]; omega)) only [bnd_ok, gVar_def, gC_def, gOp_def, gUn_def, gNil_def, gCons_def, gIf_def, gTest_def, gNot_def, gAnd_def, gOr_def, gAndV_def, gOrV_def, gNotV_def, gCB_def, asB_b, hAdd_i, hSub_i, hLt_i, hLe_i, hGt_i, hGe_i, hMul_r, hMul_l, hMod_i, hDiv_s, hBand_i, hShr_i, hPow_10_18, hPow_10_27, hPow_10_28, hPow_10_29, hPow_10_30, hEq_i, hNe_i, hLen_l, hLen_t, hMin2_i, hMax2_i, hMin3_i, hInt1_b, hInt1_i, hBits_i, hListOf_l, hListOf_t, hTupOf_l, hTupOf_t, gSeqS_def, gSet_def, gRet_def, gIfS_def, gNext_def, gTup_def, gLst_def, List.getElem?_cons_zero, List.getElem?_cons_succ, List.set_cons_zero, List.set_cons_succ, List.length_cons, List.length_nil, Nat.zero_add, Nat.reduceAdd, Nat.reduceLeDiff, Nat.reduceSub, Nat.reduceMul, if_true, if_false, Bool.false_eq_true, List.replicate_succ, List.replicate_zero, List.cons_append, List.nil_append, tgN, tgT, tgCons, tgNil, Int.reducePow, Int.reduceAdd, Int.reduceSub, Int.reduceMul, decide_true, decide_false, Bool.not_true, Bool.not_false, gChain_def, hIsa_int, hIsa_intb, hIsa_list, hIsa_tuple, gDrop_def, gCallN_def, gAsg_def, gSl_def, gNoPart_def, gPart_def, hSl_from', hSl_to', i1, i2]
      rfl
    have h := gLc_map PyData.int (fun _ => true) (fun m => PyData.int (if m = (if gx ms b > gx ms a then gx ms b else gx ms a) then (if gx ms b < gx ms a then gx ms b else gx ms a) else m)) (gi := gSeq (gVar 0)) (h := tgN 5) (gt := gYes) (ge := gIf (gTest (gOp hEq (gVar 5) (gVar 4))) (gVar 3) (gVar 5))
      (ρ := [.list (ms.map .int), .int a, .int b, .int (if gx ms b < gx ms a then gx ms b else gx ms a), .int (if gx ms b > gx ms a then gx ms b else gx ms a), .none]) (xs := ms) rfl (by omega) (fun m _ => ⟨_, rfl, rfl, fun _ => by
        simp only [bnd_ok, gVar_def, gC_def, gOp_def, gUn_def, gNil_def, gCons_def, gIf_def, gTest_def, gNot_def, gAnd_def, gOr_def, gAndV_def, gOrV_def, gNotV_def, gCB_def, asB_b, hAdd_i, hSub_i, hLt_i, hLe_i, hGt_i, hGe_i, hMul_r, hMul_l, hMod_i, hDiv_s, hBand_i, hShr_i, hPow_10_18, hPow_10_27, hPow_10_28, hPow_10_29, hPow_10_30, hEq_i, hNe_i, hLen_l, hLen_t, hMin2_i, hMax2_i, hMin3_i, hInt1_b, hInt1_i, hBits_i, hListOf_l, hListOf_t, hTupOf_l, hTupOf_t, gSeqS_def, gSet_def, gRet_def, gIfS_def, gNext_def, gTup_def, gLst_def, List.getElem?_cons_zero, List.getElem?_cons_succ, List.set_cons_zero, List.set_cons_succ, List.length_cons, List.length_nil, Nat.zero_add, Nat.reduceAdd, Nat.reduceLeDiff, Nat.reduceSub, Nat.reduceMul, if_true, if_false, Bool.false_eq_true, List.replicate_succ, List.replicate_zero, List.cons_append, List.nil_append, tgN, tgT, tgCons, tgNil, Int.reducePow, Int.reduceAdd, Int.reduceSub, Int.reduceMul, decide_true, decide_false, Bool.not_true, Bool.not_false, gChain_def, hIsa_int, hIsa_intb, hIsa_list, hIsa_tuple, gDrop_def]
        by_cases c : m = (if gx ms b > gx ms a then gx ms b else gx ms a)
        · simp only [c, if_true, beq_self_eq_true]
        · simp only [c, if_false, beq_iff_eq]⟩)
    rw [List.filter_eq_self.mpr (fun _ _ => rfl)] at h
    have e : (ms.map fun m => PyData.int (if m = (if gx ms b > gx ms a then gx ms b else gx ms a) then (if gx ms b < gx ms a then gx ms b else gx ms a) else m)) = (ms.map fun m => if m = (if gx ms b > gx ms a then gx ms b else gx ms a) then (if gx ms b < gx ms a then gx ms b else gx ms a) else m).map PyData.int := by rw [List.map_map]; rfl
    simp only [gRet_def, gPurN_def, h, bnd_ok, pureIn, e, pureA_ints, if_true]
    rfl
  · by_cases c1 : gx ms b > gx ms a <;> by_cases c2 : gx ms b < gx ms a
    · omega
    · rw [if_pos c1, if_neg c2]; exact .inr ⟨rfl, rfl⟩
    · rw [if_neg c1, if_pos c2]; exact .inl ⟨rfl, rfl⟩
    · rw [if_neg c1, if_neg c2]; exact .inl ⟨rfl, by omega⟩
/-- a row with its number -/
def encP (p : List Int × Nat) : Dt := .tuple [.int (p.2 : Nat), encI p.1]
theorem lf_loop {a b : Int} {m : Nat} (M : Dt) (a0 : 0 ≤ a) (a1 : a.toNat < m) (b0 : 0 ≤ b) (b1 : b.toNat < m) : ∀ (rows : List (List Int)) (lo : Nat) (x y : Dt), (∀ ms ∈ rows, ms.length = m) →
    (forE (tgT (tgCons (tgN 3) (tgCons (tgN 4) (tgNil)))) g_layer_for_L1 ((rows.zipIdx lo).map encP) [M, .int a, .int b, x, y] = .ok (.rt (.int (lfr a b rows lo)))) ∨
      ((∃ x' y', forE (tgT (tgCons (tgN 3) (tgCons (tgN 4) (tgNil)))) g_layer_for_L1 ((rows.zipIdx lo).map encP) [M, .int a, .int b, x, y] = .ok (.nx [M, .int a, .int b, x', y'])) ∧ lfr a b rows lo = 0)
  | [], lo, x, y, _ => .inr ⟨⟨x, y, rfl⟩, rfl⟩
  | ms :: rows, lo, x, y, h => by
    have l := h ms List.mem_cons_self
    have i1 := hIx_gx (ms := ms) a0 (by omega)
    have i2 := hIx_gx (ms := ms) b0 (by omega)
    have ih := lf_loop M a0 a1 b0 b1 rows (lo + 1) (.int lo) (encI ms) fun ms hm => h ms (List.mem_cons_of_mem _ hm)
    rw [List.zipIdx_cons, List.map_cons]
    unfold forE
    have e1 : tgT (tgCons (tgN 3) (tgCons (tgN 4) (tgNil))) (encP (ms, lo)) [M, .int a, .int b, x, y] = .ok [M, .int a, .int b, .int lo, .list (ms.map .int)] := rfl
    have e2 : g_layer_for_L1 [M, .int a, .int b, .int lo, .list (ms.map .int)] = if gx ms a = gx ms b then .ok (.nx [M, .int a, .int b, .int lo, .list (ms.map .int)]) else .ok (.rt (.int ((lo : Int) + 1))) := by
      unfold g_layer_for_L1
      simp only [bnd_ok, gVar_def, gC_def, gOp_def, gUn_def, gNil_def, gCons_def, gIf_def, gTest_def, gNot_def, gAnd_def, gOr_def, gAndV_def, gOrV_def, gNotV_def, gCB_def, asB_b, hAdd_i, hSub_i, hLt_i, hLe_i, hGt_i, hGe_i, hMul_r, hMul_l, hMod_i, hDiv_s, hBand_i, hShr_i, hPow_10_18, hPow_10_27, hPow_10_28, hPow_10_29, hPow_10_30, hEq_i, hNe_i, hLen_l, hLen_t, hMin2_i, hMax2_i, hMin3_i, hInt1_b, hInt1_i, hBits_i, hListOf_l, hListOf_t, hTupOf_l, hTupOf_t, gSeqS_def, gSet_def, gRet_def, gIfS_def, gNext_def, gTup_def, gLst_def, List.getElem?_cons_zero, List.getElem?_cons_succ, List.set_cons_zero, List.set_cons_succ, List.length_cons, List.length_nil, Nat.zero_add, Nat.reduceAdd, Nat.reduceLeDiff, Nat.reduceSub, Nat.reduceMul, if_true, if_false, Bool.false_eq_true, List.replicate_succ, List.replicate_zero, List.cons_append, List.nil_append, tgN, tgT, tgCons, tgNil, Int.reducePow, Int.reduceAdd, Int.reduceSub, Int.reduceMul, decide_true, decide_false, Bool.not_true, Bool.not_false, gChain_def, hIsa_int, hIsa_intb, hIsa_list, hIsa_tuple, gDrop_def, i1, i2]
      by_cases c : gx ms a = gx ms b
      · simp [c]
      · simp [c]
    rw [e1]
    simp only [e2]
    unfold lfr
    by_cases c : gx ms a = gx ms b
    · rw [if_pos c, if_pos c]
      exact ih
    · rw [if_neg c, if_neg c]
      exact .inl rfl
theorem layer_for_ok {a b : Int} {m : Nat} {rows : List (List Int)} (a0 : 0 ≤ a) (a1 : a.toNat < m) (b0 : 0 ≤ b) (b1 : b.toNat < m) (h : ∀ ms ∈ rows, ms.length = m) : f_layer_for [.list (rows.map encI), .int a, .int b] = .ok (.int (lfr a b rows 0)) := by
  refine fnN_rt ?_
  show g_layer_for [.list (rows.map encI), .int a, .int b, .none, .none] = _
  unfold g_layer_for
  have e : gEnum (gCons (gVar 0) (gNil)) [.list (rows.map encI), .int a, .int b, .none, .none] = .ok ((rows.zipIdx 0).map encP) := by
    refine (enum_ok (es := rows.map encI) (by rfl)).trans ?_
    rw [enumD_map]
    rfl
  rcases lf_loop (.list (rows.map encI)) a0 a1 b0 b1 rows 0 .none .none h with q | ⟨⟨x, y, q⟩, z⟩
  · exact seq_rt (for_ok e q)
  · rw [z]
    exact seq_step (for_ok e q) rfl
theorem look_ok {k : Int} (k1 : 1 ≤ k) (k6 : k ≤ 6) : f_look_at_layers [.int k] = .ok .none := by
  have e1 : f_is_whole [.int k] = .ok (.bool true) := rfl
  have e2 : f_is_depth [.int k] = .ok (.bool true) := by
    refine fnN_rt ?_
    show g_is_depth [.int k] = _
    unfold g_is_depth
    simp only [bnd_ok, gVar_def, gC_def, gOp_def, gUn_def, gNil_def, gCons_def, gIf_def, gTest_def, gNot_def, gAnd_def, gOr_def, gAndV_def, gOrV_def, gNotV_def, gCB_def, asB_b, hAdd_i, hSub_i, hLt_i, hLe_i, hGt_i, hGe_i, hMul_r, hMul_l, hMod_i, hDiv_s, hBand_i, hShr_i, hPow_10_18, hPow_10_27, hPow_10_28, hPow_10_29, hPow_10_30, hEq_i, hNe_i, hLen_l, hLen_t, hMin2_i, hMax2_i, hMin3_i, hInt1_b, hInt1_i, hBits_i, hListOf_l, hListOf_t, hTupOf_l, hTupOf_t, gSeqS_def, gSet_def, gRet_def, gIfS_def, gNext_def, gTup_def, gLst_def, List.getElem?_cons_zero, List.getElem?_cons_succ, List.set_cons_zero, List.set_cons_succ, List.length_cons, List.length_nil, Nat.zero_add, Nat.reduceAdd, Nat.reduceLeDiff, Nat.reduceSub, Nat.reduceMul, if_true, if_false, Bool.false_eq_true, List.replicate_succ, List.replicate_zero, List.cons_append, List.nil_append, tgN, tgT, tgCons, tgNil, Int.reducePow, Int.reduceAdd, Int.reduceSub, Int.reduceMul, decide_true, decide_false, Bool.not_true, Bool.not_false, gChain_def, hIsa_int, hIsa_intb, hIsa_list, hIsa_tuple, gDrop_def, gCallN_def, gAsg_def, gSl_def, gNoPart_def, gPart_def, hSl_from', hSl_to', e1, k1, k6]
  refine fnN_nx (ρ := [.int k]) ?_
  show g_look_at_layers [.int k] = _
  unfold g_look_at_layers
  simp only [bnd_ok, gVar_def, gC_def, gOp_def, gUn_def, gNil_def, gCons_def, gIf_def, gTest_def, gNot_def, gAnd_def, gOr_def, gAndV_def, gOrV_def, gNotV_def, gCB_def, asB_b, hAdd_i, hSub_i, hLt_i, hLe_i, hGt_i, hGe_i, hMul_r, hMul_l, hMod_i, hDiv_s, hBand_i, hShr_i, hPow_10_18, hPow_10_27, hPow_10_28, hPow_10_29, hPow_10_30, hEq_i, hNe_i, hLen_l, hLen_t, hMin2_i, hMax2_i, hMin3_i, hInt1_b, hInt1_i, hBits_i, hListOf_l, hListOf_t, hTupOf_l, hTupOf_t, gSeqS_def, gSet_def, gRet_def, gIfS_def, gNext_def, gTup_def, gLst_def, List.getElem?_cons_zero, List.getElem?_cons_succ, List.set_cons_zero, List.set_cons_succ, List.length_cons, List.length_nil, Nat.zero_add, Nat.reduceAdd, Nat.reduceLeDiff, Nat.reduceSub, Nat.reduceMul, if_true, if_false, Bool.false_eq_true, List.replicate_succ, List.replicate_zero, List.cons_append, List.nil_append, tgN, tgT, tgCons, tgNil, Int.reducePow, Int.reduceAdd, Int.reduceSub, Int.reduceMul, decide_true, decide_false, Bool.not_true, Bool.not_false, gChain_def, hIsa_int, hIsa_intb, hIsa_list, hIsa_tuple, gDrop_def, gCallN_def, gAsg_def, gSl_def, gNoPart_def, gPart_def, hSl_from', hSl_to', e2]
/-- the ties lie among the places -/
def InN (n : Int) (r : List T3) : Prop := ∀ t ∈ r, (0 ≤ t.2.1 ∧ t.2.1 < n) ∧ 0 ≤ t.2.2 ∧ t.2.2 < n
theorem set_map_enc (rows : List (List Int)) (j : Nat) (ms : List Int) : (rows.map encI).set j (encI ms) = (rows.set j ms).map encI := (List.map_set ..).symm
theorem layered_ok {n : Int} {k : Nat} {r : List T3} (hr : InN n r) (hl : r.length ≤ 1000) (n1 : 1 ≤ n) (n10 : n ≤ 10) (k1 : 1 ≤ k) (k6 : k ≤ 6) :
    f_layered [.int n, .list (r.map enc3), .int (k : Nat)] = .ok (.list ((lay k r).map .int)) := by
  refine fnL_rt ?_
  show g_layered [.int n, .list (r.map enc3), .int (k : Nat), .none, .none, .none, .none, .none, .none] = _
  unfold g_layered
  have hlook := look_ok (k := k) (by omega) (by omega)
  have rg : ∀ x, gLsI (gRng1 (gCons (gVar 0) gNil)) [.int n, .list (r.map enc3), .int (k : Nat), .none, .int x, .none, .none, .none, .none] = .ok (encI (pl n)) := fun x => by
    rw [lsI_ok (ds := (pl n).map .int) (by rw [rng1_ok (show gCons (gVar 0) gNil _ = .ok [.int n] from rfl) (by omega) (by omega), rangeD_pl]) (by rw [List.length_map, pl_len]; omega)]
    rfl
  have hrows : gLc (gRng1 (gCons (gVar 2) (gNil))) (tgN 4) (gYes) (gLsI (gRng1 (gCons (gVar 0) gNil))) [.int n, .list (r.map enc3), .int (k : Nat), .none, .none, .none, .none, .none, .none] = .ok (.list ((List.replicate k (pl n)).map encI)) := by
    rw [gLc_map PyData.int (fun _ => true) (fun _ => encI (pl n)) (xs := pl k) (by rw [rng1_ok (show gCons (gVar 2) gNil _ = .ok [.int (k : Nat)] from rfl) (by omega) (by omega), rangeD_pl]) (by rw [pl_len]; omega) fun x _ => ⟨_, rfl, rfl, fun _ => rg x⟩]
    rw [List.filter_eq_self.mpr (fun _ _ => rfl), List.map_const', pl_len, List.map_replicate]
    rfl
  apply seq_step
  · simp (disch := first | omega | with_unfolding_all rfl | assumption | decide | (simp only [List.length_cons, List.length_nil]; omega)) only [bnd_ok, gVar_def, gC_def, gOp_def, gUn_def, gNil_def, gCons_def, gIf_def, gTest_def, gNot_def, gAnd_def, gOr_def, gAndV_def, gOrV_def, gNotV_def, gCB_def, asB_b, hAdd_i, hSub_i, hLt_i, hLe_i, hGt_i, hGe_i, hMul_r, hMul_l, hMod_i, hDiv_s, hBand_i, hShr_i, hPow_10_18, hPow_10_27, hPow_10_28, hPow_10_29, hPow_10_30, hEq_i, hNe_i, hLen_l, hLen_t, hMin2_i, hMax2_i, hMin3_i, hInt1_b, hInt1_i, hBits_i, hListOf_l, hListOf_t, hTupOf_l, hTupOf_t, gSeqS_def, gSet_def, gRet_def, gIfS_def, gNext_def, gTup_def, gLst_def, List.getElem?_cons_zero, List.getElem?_cons_succ, List.set_cons_zero, List.set_cons_succ, List.length_cons, List.length_nil, Nat.zero_add, Nat.reduceAdd, Nat.reduceLeDiff, Nat.reduceSub, Nat.reduceMul, if_true, if_false, Bool.false_eq_true, List.replicate_succ, List.replicate_zero, List.cons_append, List.nil_append, tgN, tgT, tgCons, tgNil, Int.reducePow, Int.reduceAdd, Int.reduceSub, Int.reduceMul, decide_true, decide_false, Bool.not_true, Bool.not_false, gChain_def, hIsa_int, hIsa_intb, hIsa_list, hIsa_tuple, gDrop_def, gCallN_def, gAsg_def, gSl_def, gNoPart_def, gPart_def, hSl_from', hSl_to', hlook]
    rfl
  apply seq_step
  · simp (disch := first | omega | with_unfolding_all rfl | assumption | decide | (simp only [List.length_cons, List.length_nil]; omega)) only [bnd_ok, gVar_def, gC_def, gOp_def, gUn_def, gNil_def, gCons_def, gIf_def, gTest_def, gNot_def, gAnd_def, gOr_def, gAndV_def, gOrV_def, gNotV_def, gCB_def, asB_b, hAdd_i, hSub_i, hLt_i, hLe_i, hGt_i, hGe_i, hMul_r, hMul_l, hMod_i, hDiv_s, hBand_i, hShr_i, hPow_10_18, hPow_10_27, hPow_10_28, hPow_10_29, hPow_10_30, hEq_i, hNe_i, hLen_l, hLen_t, hMin2_i, hMax2_i, hMin3_i, hInt1_b, hInt1_i, hBits_i, hListOf_l, hListOf_t, hTupOf_l, hTupOf_t, gSeqS_def, gSet_def, gRet_def, gIfS_def, gNext_def, gTup_def, gLst_def, List.getElem?_cons_zero, List.getElem?_cons_succ, List.set_cons_zero, List.set_cons_succ, List.length_cons, List.length_nil, Nat.zero_add, Nat.reduceAdd, Nat.reduceLeDiff, Nat.reduceSub, Nat.reduceMul, if_true, if_false, Bool.false_eq_true, List.replicate_succ, List.replicate_zero, List.cons_append, List.nil_append, tgN, tgT, tgCons, tgNil, Int.reducePow, Int.reduceAdd, Int.reduceSub, Int.reduceMul, decide_true, decide_false, Bool.not_true, Bool.not_false, gChain_def, hIsa_int, hIsa_intb, hIsa_list, hIsa_tuple, gDrop_def, gCallN_def, gAsg_def, gSl_def, gNoPart_def, gPart_def, hSl_from', hSl_to', hrows]
    rfl
  apply seq_step
  · simp (disch := first | omega | with_unfolding_all rfl | assumption | decide | (simp only [List.length_cons, List.length_nil]; omega)) only [bnd_ok, gVar_def, gC_def, gOp_def, gUn_def, gNil_def, gCons_def, gIf_def, gTest_def, gNot_def, gAnd_def, gOr_def, gAndV_def, gOrV_def, gNotV_def, gCB_def, asB_b, hAdd_i, hSub_i, hLt_i, hLe_i, hGt_i, hGe_i, hMul_r, hMul_l, hMod_i, hDiv_s, hBand_i, hShr_i, hPow_10_18, hPow_10_27, hPow_10_28, hPow_10_29, hPow_10_30, hEq_i, hNe_i, hLen_l, hLen_t, hMin2_i, hMax2_i, hMin3_i, hInt1_b, hInt1_i, hBits_i, hListOf_l, hListOf_t, hTupOf_l, hTupOf_t, gSeqS_def, gSet_def, gRet_def, gIfS_def, gNext_def, gTup_def, gLst_def, List.getElem?_cons_zero, List.getElem?_cons_succ, List.set_cons_zero, List.set_cons_succ, List.length_cons, List.length_nil, Nat.zero_add, Nat.reduceAdd, Nat.reduceLeDiff, Nat.reduceSub, Nat.reduceMul, if_true, if_false, Bool.false_eq_true, List.replicate_succ, List.replicate_zero, List.cons_append, List.nil_append, tgN, tgT, tgCons, tgNil, Int.reducePow, Int.reduceAdd, Int.reduceSub, Int.reduceMul, decide_true, decide_false, Bool.not_true, Bool.not_false, gChain_def, hIsa_int, hIsa_intb, hIsa_list, hIsa_tuple, gDrop_def, gCallN_def, gAsg_def, gSl_def, gNoPart_def, gPart_def, hSl_from', hSl_to', Nat.zero_le]
    rfl
  obtain ⟨ρ', hf, rows, x4, x6, x7, x8, rfl, hR⟩ := forE_ix enc3 (h := tgT (tgCons (tgN 6) (tgCons (tgN 7) (tgCons (tgN 8) (tgNil))))) (b := g_layered_L1) r.reverse
    (fun i ρ => ∃ rows x4 x6 x7 x8, ρ = [.int n, .list (r.map enc3), .int (k : Nat), .list (rows.map encI), x4, .list ((lay k (r.reverse.take i).reverse).reverse.map .int), x6, x7, x8] ∧ RowsOk n k rows (r.reverse.take i).reverse)
    (ρ := [.int n, .list (r.map enc3), .int (k : Nat), .list ((List.replicate k (pl n)).map encI), .none, .list [], .none, .none, .none]) ⟨_, _, _, _, _, rfl, RowsOk.zero⟩ (by
      rintro i ρ hi ⟨rows, x4, x6, x7, x8, rfl, hR⟩
      have ht := hr r.reverse[i] (List.mem_reverse.mp (List.getElem_mem hi))
      have es : (r.reverse.take (i + 1)).reverse = r.reverse[i] :: (r.reverse.take i).reverse := by
        rw [List.take_add_one, List.getElem?_eq_getElem hi, List.reverse_append]
        rfl
      rw [es, lay_cons]
      generalize hs : (r.reverse.take i).reverse = s at *
      have ls : s.length = i := by rw [← hs, List.length_reverse, List.length_take]; omega
      generalize r.reverse[i] = t at *
      obtain ⟨⟨a0, a1⟩, b0, b1⟩ := ht
      have hm : ∀ ms ∈ rows, ms.length = n.toNat := fun ms h => by
        obtain ⟨j, hj, e⟩ := List.getElem_of_mem h
        rw [← e]
        exact (hR.mkr j hj).len
      have e4 := layer_for_ok (rows := rows) a0 (by omega : t.2.1.toNat < n.toNat) b0 (by omega : t.2.2.toNat < n.toNat) hm
      have e5 := hR.num a0 a1 b0 b1
      rw [e5] at e4
      obtain ⟨c0, c1⟩ := num_range k s (lay k s) t.2.1 t.2.2
      have lrev : ((lay k s).reverse.map PyData.int).length < 100000 := by
        rw [List.length_map, List.length_reverse, lay_len]
        rw [List.length_reverse] at hi
        omega
      have eapp : ∀ x : Int, (lay k s).reverse.map PyData.int ++ [.int x] = (x :: lay k s).reverse.map PyData.int := fun x => by rw [List.reverse_cons, List.map_append]; rfl
      have etg : tgT (tgCons (tgN 6) (tgCons (tgN 7) (tgCons (tgN 8) (tgNil)))) (enc3 t) [.int n, .list (r.map enc3), .int (k : Nat), .list (rows.map encI), x4, .list ((lay k s).reverse.map .int), x6, x7, x8] = .ok [.int n, .list (r.map enc3), .int (k : Nat), .list (rows.map encI), x4, .list ((lay k s).reverse.map .int), .int t.1, .int t.2.1, .int t.2.2] := rfl
      by_cases c : num k s (lay k s) t.2.1 t.2.2 = 0
      · refine ⟨_, _, etg, .inl ?_, rows, .int 0, .int t.1, .int t.2.1, .int t.2.2, rfl, hR.stay c⟩
        unfold g_layered_L1
        rw [c] at e4 ⊢
        apply seq_step
        · simp (disch := first | omega | with_unfolding_all rfl | assumption | decide | (simp only [List.length_cons, List.length_nil]; omega)) only [bnd_ok, gVar_def, gC_def, gOp_def, gUn_def, gNil_def, gCons_def, gIf_def, gTest_def, gNot_def, gAnd_def, gOr_def, gAndV_def, gOrV_def, gNotV_def, gCB_def, asB_b, hAdd_i, hSub_i, hLt_i, hLe_i, hGt_i, hGe_i, hMul_r, hMul_l, hMod_i, hDiv_s, hBand_i, hShr_i, hPow_10_18, hPow_10_27, hPow_10_28, hPow_10_29, hPow_10_30, hEq_i, hNe_i, hLen_l, hLen_t, hMin2_i, hMax2_i, hMin3_i, hInt1_b, hInt1_i, hBits_i, hListOf_l, hListOf_t, hTupOf_l, hTupOf_t, gSeqS_def, gSet_def, gRet_def, gIfS_def, gNext_def, gTup_def, gLst_def, List.getElem?_cons_zero, List.getElem?_cons_succ, List.set_cons_zero, List.set_cons_succ, List.length_cons, List.length_nil, Nat.zero_add, Nat.reduceAdd, Nat.reduceLeDiff, Nat.reduceSub, Nat.reduceMul, if_true, if_false, Bool.false_eq_true, List.replicate_succ, List.replicate_zero, List.cons_append, List.nil_append, tgN, tgT, tgCons, tgNil, Int.reducePow, Int.reduceAdd, Int.reduceSub, Int.reduceMul, decide_true, decide_false, Bool.not_true, Bool.not_false, gChain_def, hIsa_int, hIsa_intb, hIsa_list, hIsa_tuple, gDrop_def, gCallN_def, gAsg_def, gSl_def, gNoPart_def, gPart_def, hSl_from', hSl_to', e4]
          rfl
        apply seq_step
        · simp (disch := first | omega | with_unfolding_all rfl | assumption | decide | (simp only [List.length_cons, List.length_nil]; omega)) only [bnd_ok, gVar_def, gC_def, gOp_def, gUn_def, gNil_def, gCons_def, gIf_def, gTest_def, gNot_def, gAnd_def, gOr_def, gAndV_def, gOrV_def, gNotV_def, gCB_def, asB_b, hAdd_i, hSub_i, hLt_i, hLe_i, hGt_i, hGe_i, hMul_r, hMul_l, hMod_i, hDiv_s, hBand_i, hShr_i, hPow_10_18, hPow_10_27, hPow_10_28, hPow_10_29, hPow_10_30, hEq_i, hNe_i, hLen_l, hLen_t, hMin2_i, hMax2_i, hMin3_i, hInt1_b, hInt1_i, hBits_i, hListOf_l, hListOf_t, hTupOf_l, hTupOf_t, gSeqS_def, gSet_def, gRet_def, gIfS_def, gNext_def, gTup_def, gLst_def, List.getElem?_cons_zero, List.getElem?_cons_succ, List.set_cons_zero, List.set_cons_succ, List.length_cons, List.length_nil, Nat.zero_add, Nat.reduceAdd, Nat.reduceLeDiff, Nat.reduceSub, Nat.reduceMul, if_true, if_false, Bool.false_eq_true, List.replicate_succ, List.replicate_zero, List.cons_append, List.nil_append, tgN, tgT, tgCons, tgNil, Int.reducePow, Int.reduceAdd, Int.reduceSub, Int.reduceMul, decide_true, decide_false, Bool.not_true, Bool.not_false, gChain_def, hIsa_int, hIsa_intb, hIsa_list, hIsa_tuple, gDrop_def, gCallN_def, gAsg_def, gSl_def, gNoPart_def, gPart_def, hSl_from', hSl_to', Int.lt_irrefl]
          rfl
        rw [gApp_l rfl rfl lrev, eapp]
        rfl
      · obtain ⟨j, ej⟩ : ∃ j : Nat, num k s (lay k s) t.2.1 t.2.2 = (j : Int) + 1 := ⟨(num k s (lay k s) t.2.1 t.2.2 - 1).toNat, by omega⟩
        have hj : j < rows.length := by rw [hR.len]; omega
        have lj := (hR.mkr j hj).len
        obtain ⟨x, y, hj1, hj2⟩ := joined_ok (ms := rows[j]) a0 (by omega : t.2.1.toNat < rows[j].length) b0 (by omega) (by omega)
        refine ⟨_, _, etg, .inl ?_, _, .int ((j : Int) + 1), .int t.1, .int t.2.1, .int t.2.2, rfl, hR.put a0 a1 b0 b1 hj ej hj2⟩
        unfold g_layered_L1
        rw [ej] at e4 ⊢
        have p1 : (0 : Int) < (j : Int) + 1 := by omega
        have es : (j : Int) + 1 - 1 = (j : Int) := by omega
        have eix : hIx (.list (rows.map encI)) (.int (j : Int)) = .ok (encI rows[j]) := hIx_l (by rw [atI_map _ (by omega) (by omega)]; rfl)
        apply seq_step
        · simp (disch := first | omega | with_unfolding_all rfl | assumption | decide | (simp only [List.length_cons, List.length_nil]; omega)) only [bnd_ok, gVar_def, gC_def, gOp_def, gUn_def, gNil_def, gCons_def, gIf_def, gTest_def, gNot_def, gAnd_def, gOr_def, gAndV_def, gOrV_def, gNotV_def, gCB_def, asB_b, hAdd_i, hSub_i, hLt_i, hLe_i, hGt_i, hGe_i, hMul_r, hMul_l, hMod_i, hDiv_s, hBand_i, hShr_i, hPow_10_18, hPow_10_27, hPow_10_28, hPow_10_29, hPow_10_30, hEq_i, hNe_i, hLen_l, hLen_t, hMin2_i, hMax2_i, hMin3_i, hInt1_b, hInt1_i, hBits_i, hListOf_l, hListOf_t, hTupOf_l, hTupOf_t, gSeqS_def, gSet_def, gRet_def, gIfS_def, gNext_def, gTup_def, gLst_def, List.getElem?_cons_zero, List.getElem?_cons_succ, List.set_cons_zero, List.set_cons_succ, List.length_cons, List.length_nil, Nat.zero_add, Nat.reduceAdd, Nat.reduceLeDiff, Nat.reduceSub, Nat.reduceMul, if_true, if_false, Bool.false_eq_true, List.replicate_succ, List.replicate_zero, List.cons_append, List.nil_append, tgN, tgT, tgCons, tgNil, Int.reducePow, Int.reduceAdd, Int.reduceSub, Int.reduceMul, decide_true, decide_false, Bool.not_true, Bool.not_false, gChain_def, hIsa_int, hIsa_intb, hIsa_list, hIsa_tuple, gDrop_def, gCallN_def, gAsg_def, gSl_def, gNoPart_def, gPart_def, hSl_from', hSl_to', e4]
          rfl
        apply seq_step
        · rw [if_t (by simp only [bnd_ok, gVar_def, gC_def, gOp_def, gUn_def, gNil_def, gCons_def, gIf_def, gTest_def, gNot_def, gAnd_def, gOr_def, gAndV_def, gOrV_def, gNotV_def, gCB_def, asB_b, hAdd_i, hSub_i, hLt_i, hLe_i, hGt_i, hGe_i, hMul_r, hMul_l, hMod_i, hDiv_s, hBand_i, hShr_i, hPow_10_18, hPow_10_27, hPow_10_28, hPow_10_29, hPow_10_30, hEq_i, hNe_i, hLen_l, hLen_t, hMin2_i, hMax2_i, hMin3_i, hInt1_b, hInt1_i, hBits_i, hListOf_l, hListOf_t, hTupOf_l, hTupOf_t, gSeqS_def, gSet_def, gRet_def, gIfS_def, gNext_def, gTup_def, gLst_def, List.getElem?_cons_zero, List.getElem?_cons_succ, List.set_cons_zero, List.set_cons_succ, List.length_cons, List.length_nil, Nat.zero_add, Nat.reduceAdd, Nat.reduceLeDiff, Nat.reduceSub, Nat.reduceMul, if_true, if_false, Bool.false_eq_true, List.replicate_succ, List.replicate_zero, List.cons_append, List.nil_append, tgN, tgT, tgCons, tgNil, Int.reducePow, Int.reduceAdd, Int.reduceSub, Int.reduceMul, decide_true, decide_false, Bool.not_true, Bool.not_false, gChain_def, hIsa_int, hIsa_intb, hIsa_list, hIsa_tuple, gDrop_def, p1])]
          refine setI_ok (ds := rows.map encI) (d := encI (rows[j].map fun m => if m = x then y else m)) (j := (j : Int)) ?_ rfl ?_ (by omega) (by rw [List.length_map]; omega)
          · simp only [bnd_ok, gVar_def, gC_def, gOp_def, gUn_def, gNil_def, gCons_def, gIf_def, gTest_def, gNot_def, gAnd_def, gOr_def, gAndV_def, gOrV_def, gNotV_def, gCB_def, asB_b, hAdd_i, hSub_i, hLt_i, hLe_i, hGt_i, hGe_i, hMul_r, hMul_l, hMod_i, hDiv_s, hBand_i, hShr_i, hPow_10_18, hPow_10_27, hPow_10_28, hPow_10_29, hPow_10_30, hEq_i, hNe_i, hLen_l, hLen_t, hMin2_i, hMax2_i, hMin3_i, hInt1_b, hInt1_i, hBits_i, hListOf_l, hListOf_t, hTupOf_l, hTupOf_t, gSeqS_def, gSet_def, gRet_def, gIfS_def, gNext_def, gTup_def, gLst_def, List.getElem?_cons_zero, List.getElem?_cons_succ, List.set_cons_zero, List.set_cons_succ, List.length_cons, List.length_nil, Nat.zero_add, Nat.reduceAdd, Nat.reduceLeDiff, Nat.reduceSub, Nat.reduceMul, if_true, if_false, Bool.false_eq_true, List.replicate_succ, List.replicate_zero, List.cons_append, List.nil_append, tgN, tgT, tgCons, tgNil, Int.reducePow, Int.reduceAdd, Int.reduceSub, Int.reduceMul, decide_true, decide_false, Bool.not_true, Bool.not_false, gChain_def, hIsa_int, hIsa_intb, hIsa_list, hIsa_tuple, gDrop_def, gCallN_def, gAsg_def, gSl_def, gNoPart_def, gPart_def, hSl_from', hSl_to', es, eix, hj1]
          · simp only [bnd_ok, gVar_def, gC_def, gOp_def, gUn_def, gNil_def, gCons_def, gIf_def, gTest_def, gNot_def, gAnd_def, gOr_def, gAndV_def, gOrV_def, gNotV_def, gCB_def, asB_b, hAdd_i, hSub_i, hLt_i, hLe_i, hGt_i, hGe_i, hMul_r, hMul_l, hMod_i, hDiv_s, hBand_i, hShr_i, hPow_10_18, hPow_10_27, hPow_10_28, hPow_10_29, hPow_10_30, hEq_i, hNe_i, hLen_l, hLen_t, hMin2_i, hMax2_i, hMin3_i, hInt1_b, hInt1_i, hBits_i, hListOf_l, hListOf_t, hTupOf_l, hTupOf_t, gSeqS_def, gSet_def, gRet_def, gIfS_def, gNext_def, gTup_def, gLst_def, List.getElem?_cons_zero, List.getElem?_cons_succ, List.set_cons_zero, List.set_cons_succ, List.length_cons, List.length_nil, Nat.zero_add, Nat.reduceAdd, Nat.reduceLeDiff, Nat.reduceSub, Nat.reduceMul, if_true, if_false, Bool.false_eq_true, List.replicate_succ, List.replicate_zero, List.cons_append, List.nil_append, tgN, tgT, tgCons, tgNil, Int.reducePow, Int.reduceAdd, Int.reduceSub, Int.reduceMul, decide_true, decide_false, Bool.not_true, Bool.not_false, gChain_def, hIsa_int, hIsa_intb, hIsa_list, hIsa_tuple, gDrop_def, es]
        · rw [Int.toNat_natCast, set_map_enc]
          simp only [bnd_ok, gVar_def, gC_def, gOp_def, gUn_def, gNil_def, gCons_def, gIf_def, gTest_def, gNot_def, gAnd_def, gOr_def, gAndV_def, gOrV_def, gNotV_def, gCB_def, asB_b, hAdd_i, hSub_i, hLt_i, hLe_i, hGt_i, hGe_i, hMul_r, hMul_l, hMod_i, hDiv_s, hBand_i, hShr_i, hPow_10_18, hPow_10_27, hPow_10_28, hPow_10_29, hPow_10_30, hEq_i, hNe_i, hLen_l, hLen_t, hMin2_i, hMax2_i, hMin3_i, hInt1_b, hInt1_i, hBits_i, hListOf_l, hListOf_t, hTupOf_l, hTupOf_t, gSeqS_def, gSet_def, gRet_def, gIfS_def, gNext_def, gTup_def, gLst_def, List.getElem?_cons_zero, List.getElem?_cons_succ, List.set_cons_zero, List.set_cons_succ, List.length_cons, List.length_nil, Nat.zero_add, Nat.reduceAdd, Nat.reduceLeDiff, Nat.reduceSub, Nat.reduceMul, if_true, if_false, Bool.false_eq_true, List.replicate_succ, List.replicate_zero, List.cons_append, List.nil_append, tgN, tgT, tgCons, tgNil, Int.reducePow, Int.reduceAdd, Int.reduceSub, Int.reduceMul, decide_true, decide_false, Bool.not_true, Bool.not_false, gChain_def, hIsa_int, hIsa_intb, hIsa_list, hIsa_tuple, gDrop_def]
          rw [gApp_l rfl rfl lrev, eapp]
          rfl)
  refine seq_step (for_ok (ds := r.reverse.map enc3) ?_ hf) ?_
  · refine (rev_ok (es := r.map enc3) (by rfl)).trans ?_
    rw [List.map_reverse]
  · rw [List.take_length, List.reverse_reverse] 
    refine ret_ok ?_
    refine (lsI_ok (rev_ok (es := (lay k r).reverse.map .int) (by rfl)) (by rw [List.length_reverse, List.length_map, List.length_reverse, lay_len]; omega)).trans ?_
    rw [← List.map_reverse, List.reverse_reverse]
theorem depth_ok {x : Int} (h0 : 0 ≤ x) : ∃ k : Nat, f_l_depth [.int x] = .ok (.int (k : Nat)) ∧ 1 ≤ k ∧ k ≤ 6 := by
  have h : f_l_depth [.int x] = .ok (.int (if x % 8 = 1 then 1 + x / 32 % 6 else 1 + x % 4)) := by
    refine fnN_rt ?_
    show g_l_depth [.int x] = _
    unfold g_l_depth
    by_cases c : x % 8 = 1
    · have e : (x % 8 == 1) = true := by simp [c]
      have e2 : hIx (.list [.int (1 + x % 4), .int (1 + x / 32 % 6)]) (.int 1) = .ok (.int (1 + x / 32 % 6)) := rfl
      rw [if_pos c]
      simp (disch := first | omega | decide) only [bnd_ok, gVar_def, gC_def, gOp_def, gUn_def, gNil_def, gCons_def, gIf_def, gTest_def, gNot_def, gAnd_def, gOr_def, gAndV_def, gOrV_def, gNotV_def, gCB_def, asB_b, hAdd_i, hSub_i, hLt_i, hLe_i, hGt_i, hGe_i, hMul_r, hMul_l, hMod_i, hDiv_s, hBand_i, hShr_i, hPow_10_18, hPow_10_27, hPow_10_28, hPow_10_29, hPow_10_30, hEq_i, hNe_i, hLen_l, hLen_t, hMin2_i, hMax2_i, hMin3_i, hInt1_b, hInt1_i, hBits_i, hListOf_l, hListOf_t, hTupOf_l, hTupOf_t, gSeqS_def, gSet_def, gRet_def, gIfS_def, gNext_def, gTup_def, gLst_def, List.getElem?_cons_zero, List.getElem?_cons_succ, List.set_cons_zero, List.set_cons_succ, List.length_cons, List.length_nil, Nat.zero_add, Nat.reduceAdd, Nat.reduceLeDiff, Nat.reduceSub, Nat.reduceMul, if_true, if_false, Bool.false_eq_true, List.replicate_succ, List.replicate_zero, List.cons_append, List.nil_append, tgN, tgT, tgCons, tgNil, Int.reducePow, Int.reduceAdd, Int.reduceSub, Int.reduceMul, decide_true, decide_false, Bool.not_true, Bool.not_false, gChain_def, hIsa_int, hIsa_intb, hIsa_list, hIsa_tuple, gDrop_def, e, e2]
    · have e : (x % 8 == 1) = false := by simp [c]
      have e2 : hIx (.list [.int (1 + x % 4), .int (1 + x / 32 % 6)]) (.int 0) = .ok (.int (1 + x % 4)) := rfl
      rw [if_neg c]
      simp (disch := first | omega | decide) only [bnd_ok, gVar_def, gC_def, gOp_def, gUn_def, gNil_def, gCons_def, gIf_def, gTest_def, gNot_def, gAnd_def, gOr_def, gAndV_def, gOrV_def, gNotV_def, gCB_def, asB_b, hAdd_i, hSub_i, hLt_i, hLe_i, hGt_i, hGe_i, hMul_r, hMul_l, hMod_i, hDiv_s, hBand_i, hShr_i, hPow_10_18, hPow_10_27, hPow_10_28, hPow_10_29, hPow_10_30, hEq_i, hNe_i, hLen_l, hLen_t, hMin2_i, hMax2_i, hMin3_i, hInt1_b, hInt1_i, hBits_i, hListOf_l, hListOf_t, hTupOf_l, hTupOf_t, gSeqS_def, gSet_def, gRet_def, gIfS_def, gNext_def, gTup_def, gLst_def, List.getElem?_cons_zero, List.getElem?_cons_succ, List.set_cons_zero, List.set_cons_succ, List.length_cons, List.length_nil, Nat.zero_add, Nat.reduceAdd, Nat.reduceLeDiff, Nat.reduceSub, Nat.reduceMul, if_true, if_false, Bool.false_eq_true, List.replicate_succ, List.replicate_zero, List.cons_append, List.nil_append, tgN, tgT, tgCons, tgNil, Int.reducePow, Int.reduceAdd, Int.reduceSub, Int.reduceMul, decide_true, decide_false, Bool.not_true, Bool.not_false, gChain_def, hIsa_int, hIsa_intb, hIsa_list, hIsa_tuple, gDrop_def, e, e2]
  refine ⟨(if x % 8 = 1 then 1 + x / 32 % 6 else 1 + x % 4).toNat, ?_, ?_, ?_⟩
  · rw [h]
    congr 2
    split <;> omega
  · split <;> omega
  · split <;> omega
end FamL
end T_FamLP

section T_ComeP
set_option linter.all false
set_option maxRecDepth 100000
/-! ComeP: what is come to from a place, turn by turn. Plain. -/
namespace Lay
open PySem Sim FamA

def st1 (a b : Int) (S : List Int) : List Int := if a ∈ S ∧ b ∉ S then S ++ [b] else S
def st2 (t : T3) (S : List Int) : List Int := st1 t.2.2 t.2.1 (st1 t.2.1 t.2.2 S)
def trn (r : List T3) (S : List Int) : List Int := r.foldl (fun S t => st2 t S) S
def its (r : List T3) : Nat → List Int → List Int
  | 0, S => S
  | k + 1, S => trn r (its r k S)
/-- nothing more is come to -/
def Clo (r : List T3) (S : List Int) : Prop := ∀ t ∈ r, (t.2.1 ∈ S → t.2.2 ∈ S) ∧ (t.2.2 ∈ S → t.2.1 ∈ S)
theorem st1_len (a b : Int) (S : List Int) : S.length ≤ (st1 a b S).length ∧ ((st1 a b S).length = S.length → st1 a b S = S ∧ (a ∈ S → b ∈ S)) := by
  unfold st1
  split
  · rename_i h
    rw [List.length_append, List.length_singleton]
    exact ⟨by omega, fun z => by omega⟩
  · rename_i h
    exact ⟨Nat.le_refl _, fun _ => ⟨rfl, fun ha => Classical.byContradiction fun hb => h ⟨ha, hb⟩⟩⟩
theorem st2_len (t : T3) (S : List Int) : S.length ≤ (st2 t S).length ∧ ((st2 t S).length = S.length → st2 t S = S ∧ (t.2.1 ∈ S → t.2.2 ∈ S) ∧ (t.2.2 ∈ S → t.2.1 ∈ S)) := by
  unfold st2
  obtain ⟨h1, h2⟩ := st1_len t.2.1 t.2.2 S
  obtain ⟨h3, h4⟩ := st1_len t.2.2 t.2.1 (st1 t.2.1 t.2.2 S)
  refine ⟨by omega, fun e => ?_⟩
  obtain ⟨e1, e2⟩ := h2 (by omega)
  obtain ⟨e3, e4⟩ := h4 (by omega)
  rw [e1] at e4
  exact ⟨by rw [e3, e1], e2, e4⟩
theorem trn_len : ∀ (r : List T3) (S : List Int), S.length ≤ (trn r S).length ∧ ((trn r S).length = S.length → trn r S = S ∧ Clo r S)
  | [], S => ⟨Nat.le_refl _, fun _ => ⟨rfl, fun t ht => nomatch ht⟩⟩
  | t :: r, S => by
    obtain ⟨h1, h2⟩ := st2_len t S
    obtain ⟨h3, h4⟩ := trn_len r (st2 t S)
    show S.length ≤ (trn r (st2 t S)).length ∧ ((trn r (st2 t S)).length = S.length → trn r (st2 t S) = S ∧ Clo (t :: r) S)
    refine ⟨by omega, fun e => ?_⟩
    obtain ⟨e1, e2⟩ := h2 (by omega)
    obtain ⟨e3, e4⟩ := h4 (by omega)
    rw [e1] at e4
    refine ⟨by rw [e3, e1], fun u hu => ?_⟩
    rcases List.mem_cons.mp hu with rfl | hu
    · exact e2
    · exact e4 u hu
theorem st1_clo {a b : Int} {S : List Int} (h : a ∈ S → b ∈ S) : st1 a b S = S := by
  unfold st1
  rw [if_neg fun z => z.2 (h z.1)]
theorem trn_clo : ∀ {r : List T3} {S : List Int}, Clo r S → trn r S = S
  | [], _, _ => rfl
  | t :: r, S, h => by
    have h1 := h t List.mem_cons_self
    have e : st2 t S = S := by unfold st2; rw [st1_clo h1.1, st1_clo h1.2]
    show trn r (st2 t S) = S
    rw [e]
    exact trn_clo fun u hu => h u (List.mem_cons_of_mem _ hu)
theorem its_grow (r : List T3) (S : List Int) : ∀ k, Clo r (its r k S) ∨ S.length + k ≤ (its r k S).length
  | 0 => .inr (Nat.le_refl _)
  | k + 1 => by
    show Clo r (trn r (its r k S)) ∨ S.length + (k + 1) ≤ (trn r (its r k S)).length
    rcases its_grow r S k with h | h
    · rw [trn_clo h]
      exact .inl h
    · obtain ⟨h1, h2⟩ := trn_len r (its r k S)
      by_cases e : (trn r (its r k S)).length = (its r k S).length
      · obtain ⟨e1, e2⟩ := h2 e
        rw [e1]
        exact .inl e2
      · exact .inr (by omega)
/-- places of the web, each once, joined with the first one -/
structure From (n : Int) (r : List T3) (p : Int) (S : List Int) : Prop where
  nd : S.Nodup
  pl : ∀ q ∈ S, 0 ≤ q ∧ q < n
  cn : ∀ q ∈ S, Conn r p q
  has : p ∈ S
theorem From.one {n p : Int} {r : List T3} (p0 : 0 ≤ p) (pn : p < n) : From n r p [p] := ⟨List.nodup_cons.mpr ⟨by simp, List.nodup_nil⟩, fun q hq => by rw [List.mem_singleton.mp hq]; exact ⟨p0, pn⟩, fun q hq => by rw [List.mem_singleton.mp hq]; exact .refl p, List.mem_cons_self⟩
theorem From.len {n p : Int} {r : List T3} {S : List Int} (h : From n r p S) : S.length ≤ n.toNat := by
  have := List.Nodup.length_le_of_subset h.nd (l₂ := Sim.pl n) fun q hq => mem_pl.mpr (h.pl q hq)
  rwa [pl_len] at this
theorem From.st1 {n p a b : Int} {r : List T3} {S : List Int} (h : From n r p S) (b0 : 0 ≤ b) (bn : b < n) (e : E2 r a b) : From n r p (st1 a b S) := by
  unfold Lay.st1
  split
  · rename_i hc
    refine ⟨?_, fun q hq => ?_, fun q hq => ?_, List.mem_append_left _ h.has⟩
    · rw [List.nodup_append]
      exact ⟨h.nd, List.nodup_cons.mpr ⟨by simp, List.nodup_nil⟩, fun x hx y hy => by rw [List.mem_singleton.mp hy]; exact fun z => hc.2 (z ▸ hx)⟩
    · rcases List.mem_append.mp hq with hq | hq
      · exact h.pl q hq
      · rw [List.mem_singleton.mp hq]; exact ⟨b0, bn⟩
    · rcases List.mem_append.mp hq with hq | hq
      · exact h.cn q hq
      · rw [List.mem_singleton.mp hq]; exact (h.cn a hc.1).step e
  · exact h
theorem From.st2 {n p : Int} {r : List T3} {S : List Int} {t : T3} (h : From n r p S) (ht : t ∈ r) (a0 : 0 ≤ t.2.1) (an : t.2.1 < n) (b0 : 0 ≤ t.2.2) (bn : t.2.2 < n) : From n r p (st2 t S) :=
  (h.st1 b0 bn ⟨t, ht, .inl ⟨rfl, rfl⟩⟩).st1 a0 an ⟨t, ht, .inr ⟨rfl, rfl⟩⟩
theorem clo_all {n p : Int} {r : List T3} {S : List Int} (h : From n r p S) (c : Clo r S) {q : Int} (k : Conn r p q) : q ∈ S := by
  induction k with
  | refl => exact h.has
  | step _ e ih =>
    obtain ⟨t, ht, ⟨e1, e2⟩ | ⟨e1, e2⟩⟩ := e
    · rw [← e2]; exact (c t ht).1 (e1 ▸ ih)
    · rw [← e1]; exact (c t ht).2 (e2 ▸ ih)
end Lay
end T_ComeP

section T_LoopP
set_option linter.all false
set_option maxRecDepth 100000
/-! LoopP: loops that tell False at the first item that is not right. -/
namespace Sim
open PySem

theorem forE_all {α : Type} (enc : α → Dt) {h : Dt → List Dt → O (List Dt)} {b : Gs} (c : α → Prop) (I : List Dt → Prop) : ∀ (xs : List α) (ρ : List Dt), I ρ →
    (∀ x ∈ xs, ∀ ρ, I ρ → ∃ ρ1, h (enc x) ρ = .ok ρ1 ∧ ((c x ∧ ∃ ρ2, b ρ1 = .ok (.nx ρ2) ∧ I ρ2) ∨ (¬ c x ∧ b ρ1 = .ok (.rt (.bool false))))) →
    ((∀ x ∈ xs, c x) ∧ ∃ ρ', forE h b (xs.map enc) ρ = .ok (.nx ρ') ∧ I ρ') ∨ ((∃ x ∈ xs, ¬ c x) ∧ forE h b (xs.map enc) ρ = .ok (.rt (.bool false)))
  | [], ρ, h0, _ => .inl ⟨fun x hx => (List.not_mem_nil hx).elim, ρ, rfl, h0⟩
  | x :: xs, ρ, h0, H => by
    obtain ⟨ρ1, e1, hb⟩ := H x List.mem_cons_self ρ h0
    rw [List.map_cons]
    rcases hb with ⟨hc, ρ2, e2, h2⟩ | ⟨hc, e2⟩
    · have e : forE h b (enc x :: xs.map enc) ρ = forE h b (xs.map enc) ρ2 := by
        conv => lhs; unfold forE
        rw [e1]
        simp only [bnd_ok, e2]
      rcases forE_all enc c I xs ρ2 h2 (fun y hy => H y (List.mem_cons_of_mem _ hy)) with ⟨hA, ρ', e3, h3⟩ | ⟨⟨y, hy, hn⟩, e3⟩
      · exact .inl ⟨fun y hy => (List.mem_cons.mp hy).elim (fun z => z ▸ hc) (hA y), ρ', e.trans e3, h3⟩
      · exact .inr ⟨⟨y, List.mem_cons_of_mem _ hy, hn⟩, e.trans e3⟩
    · refine .inr ⟨⟨x, List.mem_cons_self, hc⟩, ?_⟩
      unfold forE
      rw [e1]
      simp only [bnd_ok, e2]
end Sim
end T_LoopP

section T_LayIff
set_option linter.all false
set_option maxRecDepth 100000
/-! LayIff: the layers' numbers, told tie by tie. -/
namespace Lay
open PySem Sim FamA

theorem fj_spec {p : Nat → Prop} : ∀ (m lo : Nat), (fj p lo m = 0 ∧ ∀ i, i < m → ¬ p (lo + i)) ∨ (∃ i, i < m ∧ fj p lo m = (lo : Int) + i + 1 ∧ p (lo + i) ∧ ∀ i', i' < i → ¬ p (lo + i'))
  | 0, lo => .inl ⟨rfl, fun i hi => by omega⟩
  | m + 1, lo => by
    by_cases h : p lo
    · exact .inr ⟨0, by omega, by rw [fj_t m h]; omega, h, fun i hi => by omega⟩
    · rw [fj_f m h]
      have sh : ∀ i, lo + 1 + i = lo + (i + 1) := fun i => by omega
      rcases fj_spec (p := p) m (lo + 1) with ⟨e, q⟩ | ⟨i, hi, e, q, r⟩
      · refine .inl ⟨e, fun i hi => ?_⟩
        cases i with
        | zero => exact h
        | succ i => rw [← sh]; exact q i (by omega)
      · refine .inr ⟨i + 1, by omega, by rw [e]; omega, by rw [← sh]; exact q, fun i' hi' => ?_⟩
        cases i' with
        | zero => exact h
        | succ i' => rw [← sh]; exact r i' (by omega)
/-- a number is right -/
def DueP (k : Nat) (met : Nat → Prop) (x : Int) : Prop := 0 ≤ x ∧ x ≤ k ∧ ∀ i, i < k → (((i : Int) + 1 ≤ (if x = 0 then (k : Int) else x - 1)) → met i) ∧ ((i : Int) + 1 = x → ¬ met i)
theorem due_iff {k : Nat} {met : Nat → Prop} {x : Int} : DueP k met x ↔ x = fj (fun j => ¬ met j) 0 k := by
  rcases fj_spec (p := fun j => ¬ met j) k 0 with ⟨e, q⟩ | ⟨i, hi, e, q, r⟩
  · simp only [Nat.zero_add, Classical.not_not] at q
    rw [e]
    constructor
    · rintro ⟨x0, xk, D⟩
      refine Classical.byContradiction fun hx => ?_
      have := (D (x - 1).toNat (by omega)).2 (by omega)
      exact this (q _ (by omega))
    · rintro rfl
      exact ⟨by omega, by omega, fun i hi => ⟨fun _ => q i hi, fun z => by omega⟩⟩
  · simp only [Nat.zero_add, Classical.not_not] at q r
    rw [e]
    constructor
    · rintro ⟨x0, xk, D⟩
      by_cases h0 : x = 0
      · exact absurd ((D i hi).1 (by rw [if_pos h0]; omega)) q
      · by_cases h1 : x < (i : Int) + 1
        · exact absurd (r (x - 1).toNat (by omega)) ((D (x - 1).toNat (by omega)).2 (by omega))
        · by_cases h2 : (i : Int) + 1 < x
          · exact absurd ((D i hi).1 (by rw [if_neg h0]; omega)) q
          · omega
    · intro hx
      refine ⟨by omega, by omega, fun j hj => ⟨fun z => ?_, fun z => ?_⟩⟩
      · rw [if_neg (by omega)] at z
        exact r j (by omega)
      · have : j = i := by omega
        rw [this]
        exact q
theorem lay_iff (k : Nat) : ∀ (r : List T3) (ns : List Int), ns.length = r.length → (ns = lay k r ↔ ∀ p (hp : p < r.length) (hq : p < ns.length), ns[p] = num k (r.drop (p + 1)) (ns.drop (p + 1)) r[p].2.1 r[p].2.2)
  | [], [], _ => ⟨fun _ p hp => absurd hp (Nat.not_lt_zero _), fun _ => rfl⟩
  | t :: s, x :: ns, h => by
    have ih := lay_iff k s ns (by simpa using h)
    rw [lay_cons]
    constructor
    · intro e
      injection e with e1 e2
      intro p hp hq
      cases p with
      | zero =>
        show x = num k s ns t.2.1 t.2.2
        rw [e1, ← e2]
      | succ p => exact ih.mp e2 p (by simpa using hp) (by simpa using hq)
    · intro D
      have e2 := ih.mpr fun p hp hq => D (p + 1) (by simpa using hp) (by simpa using hq)
      have e1 : x = num k s ns t.2.1 t.2.2 := D 0 (by simp) (by simp)
      rw [← e2, ← e1]
theorem lay_app (k : Nat) (v : List T3) : ∀ u : List T3, ∃ w, lay k (u ++ v) = w ++ lay k v ∧ w.length = u.length
  | [] => ⟨[], rfl, rfl⟩
  | t :: u => by
    obtain ⟨w, e, l⟩ := lay_app k v u
    rw [List.cons_append, lay_cons, e]
    exact ⟨_ :: w, rfl, by rw [List.length_cons, List.length_cons, l]⟩
end Lay
end T_LayIff

section T_K59
set_option Elab.async false
set_option linter.all false
set_option maxRecDepth 100000
set_option maxHeartbeats 4000000
namespace K59
open PySem PySem.Spec L2 Sim
open PyProof.Rows hiding St
def topS (i : Nat) : Stmt := PySem.Challenge.pw_sinceply_k59_whole_papers_never_cross.main.body.getD i (.Pass ⟨0, 0, 0, 0⟩)
abbrev st_is_whole : Stmt := topS 5
theorem sc_is_whole : FnScope ["thing"] ["thing"] (defScope st_is_whole) := ⟨rfl, rfl, rfl, by decide +kernel, rfl, by decide +kernel, by decide +kernel⟩
abbrev st_is_place : Stmt := topS 6
theorem sc_is_place : FnScope ["n", "thing"] ["n", "thing"] (defScope st_is_place) := ⟨rfl, rfl, rfl, by decide +kernel, rfl, by decide +kernel, by decide +kernel⟩
abbrev st_since : Stmt := topS 7
theorem sc_since : FnScope ["record", "t", "tie"] ["record", "t"] (defScope st_since) := ⟨rfl, rfl, rfl, by decide +kernel, rfl, by decide +kernel, by decide +kernel⟩
abbrev st_rim : Stmt := topS 9
theorem sc_rim : FnScope ["record", "side", "moment", "a", "b"] ["record", "side"] (defScope st_rim) := ⟨rfl, rfl, rfl, by decide +kernel, rfl, by decide +kernel, by decide +kernel⟩
abbrev st_joined : Stmt := topS 10
theorem sc_joined : FnScope ["marks", "a", "b", "low", "high", "mark"] ["marks", "a", "b"] (defScope st_joined) := ⟨rfl, rfl, rfl, by decide +kernel, rfl, by decide +kernel, by decide +kernel⟩
abbrev st_way_right : Stmt := topS 11
theorem sc_way_right : FnScope ["record", "a", "b", "way", "ends", "moment", "one", "other", "place"] ["record", "a", "b", "way"] (defScope st_way_right) := ⟨rfl, rfl, rfl, by decide +kernel, rfl, by decide +kernel, by decide +kernel⟩
abbrev st_are_apart : Stmt := topS 13
theorem sc_are_apart : FnScope ["ways", "seen", "way", "moment"] ["ways"] (defScope st_are_apart) := ⟨rfl, rfl, rfl, by decide +kernel, rfl, by decide +kernel, by decide +kernel⟩
abbrev st_many_ways : Stmt := topS 14
theorem sc_many_ways : FnScope ["record", "a", "b", "ways", "way"] ["record", "a", "b", "ways"] (defScope st_many_ways) := ⟨rfl, rfl, rfl, by decide +kernel, rfl, by decide +kernel, by decide +kernel⟩
abbrev st_is_side : Stmt := topS 15
theorem sc_is_side : FnScope ["n", "side", "place", "at"] ["n", "side"] (defScope st_is_side) := ⟨rfl, rfl, rfl, by decide +kernel, rfl, by decide +kernel, by decide +kernel⟩
abbrev st_judged_pair : Stmt := topS 16
theorem sc_judged_pair : FnScope ["n", "record", "paper", "word", "a", "b", "t", "shown"] ["n", "record", "paper"] (defScope st_judged_pair) := ⟨rfl, rfl, rfl, by decide +kernel, rfl, by decide +kernel, by decide +kernel⟩
abbrev st_judged_out : Stmt := topS 17
theorem sc_judged_out : FnScope ["record", "paper", "word", "moment", "ways", "tie"] ["record", "paper"] (defScope st_judged_out) := ⟨rfl, rfl, rfl, by decide +kernel, rfl, by decide +kernel, by decide +kernel⟩
abbrev st_judged : Stmt := topS 18
theorem sc_judged : FnScope ["n", "record", "paper"] ["n", "record", "paper"] (defScope st_judged) := ⟨rfl, rfl, rfl, by decide +kernel, rfl, by decide +kernel, by decide +kernel⟩
abbrev st_is_depth : Stmt := topS 21
theorem sc_is_depth : FnScope ["thing"] ["thing"] (defScope st_is_depth) := ⟨rfl, rfl, rfl, by decide +kernel, rfl, by decide +kernel, by decide +kernel⟩
abbrev st_look_at_layers : Stmt := topS 22
theorem sc_look_at_layers : FnScope ["k"] ["k"] (defScope st_look_at_layers) := ⟨rfl, rfl, rfl, by decide +kernel, rfl, by decide +kernel, by decide +kernel⟩
abbrev st_layer_for : Stmt := topS 23
theorem sc_layer_for : FnScope ["marks", "a", "b", "j", "row"] ["marks", "a", "b"] (defScope st_layer_for) := ⟨rfl, rfl, rfl, by decide +kernel, rfl, by decide +kernel, by decide +kernel⟩
abbrev st_layered : Stmt := topS 24
theorem sc_layered : FnScope ["n", "record", "k", "marks", "j", "numbers", "moment", "a", "b"] ["n", "record", "k"] (defScope st_layered) := ⟨rfl, rfl, rfl, by decide +kernel, rfl, by decide +kernel, by decide +kernel⟩
abbrev st_way_in : Stmt := topS 26
theorem sc_way_in : FnScope ["ties", "a", "b", "came", "line", "at", "moment", "one", "other", "to"] ["ties", "a", "b"] (defScope st_way_in) := ⟨rfl, rfl, rfl, by decide +kernel, rfl, by decide +kernel, by decide +kernel⟩
abbrev st_strands : Stmt := topS 27
theorem sc_strands : FnScope ["n", "record", "k", "at", "numbers", "ahead", "found", "j", "ties", "later"] ["n", "record", "k", "at"] (defScope st_strands) := ⟨rfl, rfl, rfl, by decide +kernel, rfl, by decide +kernel, by decide +kernel⟩
abbrev st_l_mixed : Stmt := topS 29
theorem sc_l_mixed : FnScope ["cell", "k", "number"] ["cell", "k"] (defScope st_l_mixed) := ⟨rfl, rfl, rfl, by decide +kernel, rfl, by decide +kernel, by decide +kernel⟩
abbrev st_l_numbers : Stmt := topS 30
theorem sc_l_numbers : FnScope ["cell", "many", "base", "found", "left", "k", "number", "turns"] ["cell", "many", "base"] (defScope st_l_numbers) := ⟨rfl, rfl, rfl, by decide +kernel, rfl, by decide +kernel, by decide +kernel⟩
abbrev st_l_ends : Stmt := topS 31
theorem sc_l_ends : FnScope ["n", "kind", "one", "other", "a"] ["n", "kind", "one", "other"] (defScope st_l_ends) := ⟨rfl, rfl, rfl, by decide +kernel, rfl, by decide +kernel, by decide +kernel⟩
abbrev st_l_record : Stmt := topS 32
theorem sc_l_record : FnScope ["numbers", "most", "n", "many", "wide", "moment", "record", "k", "a", "b"] ["numbers", "most"] (defScope st_l_record) := ⟨rfl, rfl, rfl, by decide +kernel, rfl, by decide +kernel, by decide +kernel⟩
abbrev st_l_depth : Stmt := topS 33
theorem sc_l_depth : FnScope ["number"] ["number"] (defScope st_l_depth) := ⟨rfl, rfl, rfl, by decide +kernel, rfl, by decide +kernel, by decide +kernel⟩
abbrev st_l_free_way : Stmt := topS 34
theorem sc_l_free_way : FnScope ["ties", "a", "b", "ways", "line", "turn", "moment", "one", "other", "to"] ["ties", "a", "b"] (defScope st_l_free_way) := ⟨rfl, rfl, rfl, by decide +kernel, rfl, by decide +kernel, by decide +kernel⟩
abbrev st_l_ways : Stmt := topS 35
theorem sc_l_ways : FnScope ["ties", "a", "b", "found", "left", "turn", "way", "tie"] ["ties", "a", "b"] (defScope st_l_ways) := ⟨rfl, rfl, rfl, by decide +kernel, rfl, by decide +kernel, by decide +kernel⟩
abbrev st_l_sides : Stmt := topS 36
theorem sc_l_sides : FnScope ["n", "a", "b", "number", "found", "k", "bits", "side", "place"] ["n", "a", "b", "number"] (defScope st_l_sides) := ⟨rfl, rfl, rfl, by decide +kernel, rfl, by decide +kernel, by decide +kernel⟩
abbrev st_l_strands_right : Stmt := topS 37
theorem sc_l_strands_right : FnScope ["n", "record", "k", "at", "number", "moment", "one", "other", "ways", "side", "younger", "tie"] ["n", "record", "k", "at", "number"] (defScope st_l_strands_right) := ⟨rfl, rfl, rfl, by decide +kernel, rfl, by decide +kernel, by decide +kernel⟩
abbrev st_law : Stmt := topS 38
theorem sc_law : FnScope ["script", "cell", "numbers", "n", "record", "a", "b", "t", "tie", "ways", "side", "word", "most", "over", "at", "k"] ["script"] (defScope st_law) := ⟨rfl, rfl, rfl, by decide +kernel, rfl, by decide +kernel, by decide +kernel⟩
structure Tx (K : PySem.W.Frag) (mg : Str → Option Value) where
  a_is_whole : Addr
  d_is_whole : FuncData
  F_is_whole : L2.Fun K "is_whole" "is_whole" st_is_whole a_is_whole d_is_whole
  m_is_whole : mg "is_whole" = some (.ref a_is_whole)
  b_is_whole : Binds K d_is_whole ["thing"] []
  a_is_place : Addr
  d_is_place : FuncData
  F_is_place : L2.Fun K "is_place" "is_place" st_is_place a_is_place d_is_place
  m_is_place : mg "is_place" = some (.ref a_is_place)
  b_is_place : Binds K d_is_place ["n", "thing"] []
  a_since : Addr
  d_since : FuncData
  F_since : L2.Fun K "since" "since" st_since a_since d_since
  m_since : mg "since" = some (.ref a_since)
  b_since : Binds K d_since ["record", "t"] []
  a_rim : Addr
  d_rim : FuncData
  F_rim : L2.Fun K "rim" "rim" st_rim a_rim d_rim
  m_rim : mg "rim" = some (.ref a_rim)
  b_rim : Binds K d_rim ["record", "side"] []
  a_joined : Addr
  d_joined : FuncData
  F_joined : L2.Fun K "joined" "joined" st_joined a_joined d_joined
  m_joined : mg "joined" = some (.ref a_joined)
  b_joined : Binds K d_joined ["marks", "a", "b"] []
  a_way_right : Addr
  d_way_right : FuncData
  F_way_right : L2.Fun K "way_right" "way_right" st_way_right a_way_right d_way_right
  m_way_right : mg "way_right" = some (.ref a_way_right)
  b_way_right : Binds K d_way_right ["record", "a", "b", "way"] []
  a_are_apart : Addr
  d_are_apart : FuncData
  F_are_apart : L2.Fun K "are_apart" "are_apart" st_are_apart a_are_apart d_are_apart
  m_are_apart : mg "are_apart" = some (.ref a_are_apart)
  b_are_apart : Binds K d_are_apart ["ways"] []
  a_many_ways : Addr
  d_many_ways : FuncData
  F_many_ways : L2.Fun K "many_ways" "many_ways" st_many_ways a_many_ways d_many_ways
  m_many_ways : mg "many_ways" = some (.ref a_many_ways)
  b_many_ways : Binds K d_many_ways ["record", "a", "b", "ways"] []
  a_is_side : Addr
  d_is_side : FuncData
  F_is_side : L2.Fun K "is_side" "is_side" st_is_side a_is_side d_is_side
  m_is_side : mg "is_side" = some (.ref a_is_side)
  b_is_side : Binds K d_is_side ["n", "side"] []
  a_judged_pair : Addr
  d_judged_pair : FuncData
  F_judged_pair : L2.Fun K "judged_pair" "judged_pair" st_judged_pair a_judged_pair d_judged_pair
  m_judged_pair : mg "judged_pair" = some (.ref a_judged_pair)
  b_judged_pair : Binds K d_judged_pair ["n", "record", "paper"] []
  a_judged_out : Addr
  d_judged_out : FuncData
  F_judged_out : L2.Fun K "judged_out" "judged_out" st_judged_out a_judged_out d_judged_out
  m_judged_out : mg "judged_out" = some (.ref a_judged_out)
  b_judged_out : Binds K d_judged_out ["record", "paper"] []
  a_judged : Addr
  d_judged : FuncData
  F_judged : L2.Fun K "judged" "judged" st_judged a_judged d_judged
  m_judged : mg "judged" = some (.ref a_judged)
  b_judged : Binds K d_judged ["n", "record", "paper"] []
  a_is_depth : Addr
  d_is_depth : FuncData
  F_is_depth : L2.Fun K "is_depth" "is_depth" st_is_depth a_is_depth d_is_depth
  m_is_depth : mg "is_depth" = some (.ref a_is_depth)
  b_is_depth : Binds K d_is_depth ["thing"] []
  a_look_at_layers : Addr
  d_look_at_layers : FuncData
  F_look_at_layers : L2.Fun K "look_at_layers" "look_at_layers" st_look_at_layers a_look_at_layers d_look_at_layers
  m_look_at_layers : mg "look_at_layers" = some (.ref a_look_at_layers)
  b_look_at_layers : Binds K d_look_at_layers ["k"] []
  a_layer_for : Addr
  d_layer_for : FuncData
  F_layer_for : L2.Fun K "layer_for" "layer_for" st_layer_for a_layer_for d_layer_for
  m_layer_for : mg "layer_for" = some (.ref a_layer_for)
  b_layer_for : Binds K d_layer_for ["marks", "a", "b"] []
  a_layered : Addr
  d_layered : FuncData
  F_layered : L2.Fun K "layered" "layered" st_layered a_layered d_layered
  m_layered : mg "layered" = some (.ref a_layered)
  b_layered : Binds K d_layered ["n", "record", "k"] []
  a_way_in : Addr
  d_way_in : FuncData
  F_way_in : L2.Fun K "way_in" "way_in" st_way_in a_way_in d_way_in
  m_way_in : mg "way_in" = some (.ref a_way_in)
  b_way_in : Binds K d_way_in ["ties", "a", "b"] []
  a_strands : Addr
  d_strands : FuncData
  F_strands : L2.Fun K "strands" "strands" st_strands a_strands d_strands
  m_strands : mg "strands" = some (.ref a_strands)
  b_strands : Binds K d_strands ["n", "record", "k", "at"] []
  a_l_mixed : Addr
  d_l_mixed : FuncData
  F_l_mixed : L2.Fun K "_law_mixed" "_law_mixed" st_l_mixed a_l_mixed d_l_mixed
  m_l_mixed : mg "_law_mixed" = some (.ref a_l_mixed)
  b_l_mixed : Binds K d_l_mixed ["cell", "k"] []
  a_l_numbers : Addr
  d_l_numbers : FuncData
  F_l_numbers : L2.Fun K "_law_numbers" "_law_numbers" st_l_numbers a_l_numbers d_l_numbers
  m_l_numbers : mg "_law_numbers" = some (.ref a_l_numbers)
  b_l_numbers : Binds K d_l_numbers ["cell", "many", "base"] []
  a_l_ends : Addr
  d_l_ends : FuncData
  F_l_ends : L2.Fun K "_law_ends" "_law_ends" st_l_ends a_l_ends d_l_ends
  m_l_ends : mg "_law_ends" = some (.ref a_l_ends)
  b_l_ends : Binds K d_l_ends ["n", "kind", "one", "other"] []
  a_l_record : Addr
  d_l_record : FuncData
  F_l_record : L2.Fun K "_law_record" "_law_record" st_l_record a_l_record d_l_record
  m_l_record : mg "_law_record" = some (.ref a_l_record)
  b_l_record : Binds K d_l_record ["numbers", "most"] []
  a_l_depth : Addr
  d_l_depth : FuncData
  F_l_depth : L2.Fun K "_law_depth" "_law_depth" st_l_depth a_l_depth d_l_depth
  m_l_depth : mg "_law_depth" = some (.ref a_l_depth)
  b_l_depth : Binds K d_l_depth ["number"] []
  a_l_free_way : Addr
  d_l_free_way : FuncData
  F_l_free_way : L2.Fun K "_law_free_way" "_law_free_way" st_l_free_way a_l_free_way d_l_free_way
  m_l_free_way : mg "_law_free_way" = some (.ref a_l_free_way)
  b_l_free_way : Binds K d_l_free_way ["ties", "a", "b"] []
  a_l_ways : Addr
  d_l_ways : FuncData
  F_l_ways : L2.Fun K "_law_ways" "_law_ways" st_l_ways a_l_ways d_l_ways
  m_l_ways : mg "_law_ways" = some (.ref a_l_ways)
  b_l_ways : Binds K d_l_ways ["ties", "a", "b"] []
  a_l_sides : Addr
  d_l_sides : FuncData
  F_l_sides : L2.Fun K "_law_sides" "_law_sides" st_l_sides a_l_sides d_l_sides
  m_l_sides : mg "_law_sides" = some (.ref a_l_sides)
  b_l_sides : Binds K d_l_sides ["n", "a", "b", "number"] []
  a_l_strands_right : Addr
  d_l_strands_right : FuncData
  F_l_strands_right : L2.Fun K "_law_strands_right" "_law_strands_right" st_l_strands_right a_l_strands_right d_l_strands_right
  m_l_strands_right : mg "_law_strands_right" = some (.ref a_l_strands_right)
  b_l_strands_right : Binds K d_l_strands_right ["n", "record", "k", "at", "number"] []
  a_law : Addr
  d_law : FuncData
  F_law : L2.Fun K "law" "law" st_law a_law d_law
  m_law : mg "law" = some (.ref a_law)
  b_law : Binds K d_law ["script"] []
  n_isinstance : mg "isinstance" = none
  n_int : mg "int" = none
  n_bool : mg "bool" = none
  n_min : mg "min" = none
  n_max : mg "max" = none
  n_list : mg "list" = none
  n_all : mg "all" = none
  n_len : mg "len" = none
  n_tuple : mg "tuple" = none
  n_range : mg "range" = none
  n_enumerate : mg "enumerate" = none
  n_reversed : mg "reversed" = none
  c_MOST_LAYERS : ∃ tk, mg "MOST_LAYERS" = some (.int (6) tk)
section
variable {P : Program} {w : World} {K : PySem.W.Frag} {mg : Str → Option Value} {base : Heap}
/-! ### is_whole -/
abbrev g_is_whole : Gs := FamL.g_is_whole
abbrev f_is_whole : List Dt → O Dt := FamL.f_is_whole
theorem ok_is_whole (t : Tx K mg) : FnOk P w K mg base CX0 1 t.a_is_whole t.d_is_whole ["thing"] (spG K mg 1 f_is_whole) := by
  have nd : (["thing"] : List Str).Nodup := by decide +kernel
  exact fn_okN t.F_is_whole (Δn := [.im false]) sc_is_whole rfl rfl (by decide) fun cdv A outer s H E hr => ⟨_, BD.frm [.im false] (Δb := kd0 1 1 false) (Δc := kd0 1 1 false)
    (b_one (z_ret (x_and (x_isa .int t.n_isinstance t.n_int (x_var 0)) (x_one (x_not (x_isa .bool t.n_isinstance t.n_bool (x_var 0))))))) rfl⟩
/-! ### is_place -/
def g_is_place : Gs := gRet (gAndV (gCallN 1 f_is_whole (gCons (gVar 1) (gNil))) (gChain hLe hLt (gC (.int (0))) (gVar 1) (gVar 0)))
def f_is_place : List Dt → O Dt := fnN 2 g_is_place
theorem ok_is_place (t : Tx K mg) : FnOk P w K mg base CX0 2 t.a_is_place t.d_is_place ["n", "thing"] (spG K mg 2 f_is_place) := by
  have G_is_whole := ok_is_whole (P := P) (w := w) (base := base) t
  have nd : (["n", "thing"] : List Str).Nodup := by decide +kernel
  exact fn_okN t.F_is_place (Δn := [.im false, .im false]) sc_is_place rfl rfl (by decide) fun cdv A outer s H E hr => ⟨_, BD.frm [.im false, .im false] (Δb := kd0 2 2 false) (Δc := kd0 2 2 false)
    (b_one (z_ret (x_and (x_callN G_is_whole (hr.mono (by decide)) t.m_is_whole t.F_is_whole.kp t.b_is_whole pass0 (AD.to true false (a_cons (x_var 1) (a_nil)))) (x_one (x_chain or_le or_lt (x_int) (x_var 1) (x_var 0)))))) rfl⟩
/-! ### since -/
def g_since : Gs := gRet (gPurN (gLc (gSeq (gVar 0)) (tgN 2) (gTest (gOp hGe (gOp hIx (gVar 2) (gC (.int (0)))) (gVar 1))) (gVar 2)))
def f_since : List Dt → O Dt := fnL 3 g_since
theorem ok_since (t : Tx K mg) : FnOk P w K mg base CX0 1 t.a_since t.d_since ["record", "t"] (spL K mg 2 f_since) := by
  have nd : (["record", "t", "tie"] : List Str).Nodup := by decide +kernel
  exact fn_okL t.F_since (Δn := [.im false, .im false, .no]) sc_since rfl rfl (by decide) fun cdv A outer s H E hr => ⟨_, BD.frm [.im false, .im false, .no] (Δb := kd0 2 3 false) (Δc := kd0 2 3 false)
    (b_one (z_retL (PD.purN (x_lc (n := 3) [("tie", 2)] nd (i_seq (x_var 0)) (blk_fx (N := ["record", "t", "tie"]) (sc := defScope st_since) (by decide +kernel)) (fun _ _ _ _ _ => g_name 2 nd) (fun _ _ _ _ _ => t_one (c_cmp or_ge (x_ix (x_var 2) (x_int)) (x_var 1))) (fun _ _ _ _ _ => x_var 2))))) rfl⟩
/-! ### rim -/
def g_rim : Gs := gRet (gPurN (gLc (gSeq (gVar 0)) (tgT (tgCons (tgN 2) (tgCons (tgN 3) (tgCons (tgN 4) (tgNil))))) (gTest (gOp hNe (gOp hIn (gVar 3) (gVar 1)) (gOp hIn (gVar 4) (gVar 1)))) (gVar 2)))
def f_rim : List Dt → O Dt := fnL 5 g_rim
theorem ok_rim (t : Tx K mg) : FnOk P w K mg base CX0 1 t.a_rim t.d_rim ["record", "side"] (spL K mg 2 f_rim) := by
  have nd : (["record", "side", "moment", "a", "b"] : List Str).Nodup := by decide +kernel
  exact fn_okL t.F_rim (Δn := [.im false, .im false, .no, .no, .no]) sc_rim rfl rfl (by decide) fun cdv A outer s H E hr => ⟨_, BD.frm [.im false, .im false, .no, .no, .no] (Δb := kd0 2 5 false) (Δc := kd0 2 5 false)
    (b_one (z_retL (PD.purN (x_lc (n := 5) [("moment", 2), ("a", 3), ("b", 4)] nd (i_seq (x_var 0)) (blk_fx (N := ["record", "side", "moment", "a", "b"]) (sc := defScope st_rim) (by decide +kernel)) (fun _ _ _ _ _ => g_tup (m := 3) rfl (g_cons (g_name 2 nd) (g_cons (g_name 3 nd) (g_cons (g_name 4 nd) (g_nil)))) (tgCons_len (tgCons_len (tgCons_len tgNil_len)))) (fun _ _ _ _ _ => t_one (c_cmp (or_ne hr) (x_cmp (or_in hr) (x_var 3) (x_var 1)) (x_cmp (or_in hr) (x_var 4) (x_var 1)))) (fun _ _ _ _ _ => x_var 2))))) rfl⟩
/-! ### joined -/
abbrev g_joined : Gs := FamL.g_joined
abbrev f_joined : List Dt → O Dt := FamL.f_joined
theorem ok_joined (t : Tx K mg) : FnOk P w K mg base CX0 1 t.a_joined t.d_joined ["marks", "a", "b"] (spL K mg 3 f_joined) := by
  have nd : (["marks", "a", "b", "low", "high", "mark"] : List Str).Nodup := by decide +kernel
  exact fn_okL t.F_joined (Δn := [.im false, .im false, .im false, .no, .no, .no]) sc_joined rfl rfl (by decide) fun cdv A outer s H E hr => ⟨_, BD.frm [.im false, .im false, .im false, .no, .no, .no] (Δb := kd0 3 6 false) (Δc := kd0 3 6 false)
    (b_cons ((z_set 3 nd (x_min2 t.n_min (AD.to true false (a_cons (x_ix (x_var 0) (x_var 1)) (a_cons (x_ix (x_var 0) (x_var 2)) (a_nil)))))).to [.im false, .im false, .im false, .im true, .no, .no])
    (b_cons ((z_set 4 nd (x_max2 t.n_max (AD.to true false (a_cons (x_ix (x_var 0) (x_var 1)) (a_cons (x_ix (x_var 0) (x_var 2)) (a_nil)))))).to [.im false, .im false, .im false, .im true, .im true, .no])
    (b_one (z_retL (PD.purN (x_lc (n := 6) [("mark", 5)] nd (i_seq (x_var 0)) (blk_fx (N := ["marks", "a", "b", "low", "high", "mark"]) (sc := defScope st_joined) (by decide +kernel)) (fun _ _ _ _ _ => g_name 5 nd) (fun _ _ _ _ _ => t_nil) (fun _ _ _ _ _ => x_ifE (c_cmp (or_eq hr) (x_var 5) (x_var 4)) ((x_var 3).wk (av' := true) (fr' := false)) (x_var 5)))))))) rfl⟩
/-! ### way_right -/
def g_way_right_L1 : Gs := gIfS (gTest (gOp hNe (gVar 6) (gVar 7))) (gDPut 4 (gTup (gCons (gVar 6) (gCons (gVar 7) (gNil)))) (gVar 5)) (gNext)
def g_way_right_L2 : Gs := gSeqS (gIfS (gOr (gTest (gDIn true 4 (gVar 5))) (gTest (gOp hNotIn (gVar 8) (gDGet 4 (gVar 5))))) (gRet (gC (.bool false))) (gNext)) (gSeqS (gDPop 4 (gVar 5) (tgT (tgCons (tgN 6) (tgCons (tgN 7) (tgNil))))) (gSet 8 (gOp hSub (gOp hAdd (gVar 6) (gVar 7)) (gVar 8))))
def g_way_right : Gs := gSeqS (gSet 4 (gDNew)) (gSeqS (gFor (gSeq (gVar 0)) (tgT (tgCons (tgN 5) (tgCons (tgN 6) (tgCons (tgN 7) (tgNil))))) g_way_right_L1) (gSeqS (gSet 8 (gVar 1)) (gSeqS (gFor (gSeq (gVar 3)) (tgN 5) g_way_right_L2) (gRet (gOp hEq (gVar 8) (gVar 2))))))
def f_way_right : List Dt → O Dt := fnN 9 g_way_right
theorem ok_way_right (t : Tx K mg) : FnOk P w K mg base CX0 1 t.a_way_right t.d_way_right ["record", "a", "b", "way"] (spG K mg 4 f_way_right) := by
  have nd : (["record", "a", "b", "way", "ends", "moment", "one", "other", "place"] : List Str).Nodup := by decide +kernel
  exact fn_okN t.F_way_right (Δn := [.im false, .im false, .im false, .im false, .no, .no, .no, .no, .no]) sc_way_right rfl rfl (by decide) fun cdv A outer s H E hr => ⟨_, BD.frm [.im false, .im false, .im false, .im false, .no, .no, .no, .no, .no] (Δb := kd0 4 9 false) (Δc := kd0 4 9 false)
    (b_cons ((z_setO 4 nd (x_dnew)).to [.im false, .im false, .im false, .im false, .own .dk true, .no, .no, .no, .no])
    (b_cons (SD.frm [.im false, .im false, .im false, .im false, .own .dk false, .no, .no, .no, .no] (z_for (n := 9) .never (i_seq (x_var 0)) (g_tup (m := 3) rfl (g_cons (g_name 5 nd) (g_cons (g_name 6 nd) (g_cons (g_name 7 nd) (g_nil)))) (tgCons_len (tgCons_len (tgCons_len tgNil_len))))
    ((b_one (z_if (Δn := [.im false, .im false, .im false, .im false, .own .dk false, .im false, .im false, .im false, .no]) (c_cmp (or_ne hr) (x_var 6) (x_var 7))
    ((b_one ((z_dput 4 hr (x_tup (AD.to true false (a_cons (x_var 6) (a_cons (x_var 7) (a_nil))))) (x_var 5)).to [.im false, .im false, .im false, .im false, .own .dk false, .im false, .im false, .im false, .no])).to [.im false, .im false, .im false, .im false, .own .dk false, .im false, .im false, .im false, .no])
    ((b_nil).to [.im false, .im false, .im false, .im false, .own .dk false, .im false, .im false, .im false, .no]))).to [.im false, .im false, .im false, .im false, .own .dk false, .no, .no, .no, .no])))
    (b_cons ((z_set 8 nd (x_var 1)).to [.im false, .im false, .im false, .im false, .own .dk false, .no, .no, .no, .im false])
    (b_cons (z_for (n := 9) .never (i_seq (x_var 3)) (g_name 5 nd)
    ((b_cons (z_if (Δn := [.im false, .im false, .im false, .im false, .own .dk false, .im false, .no, .no, .im false]) (c_w (w_or (c_dnin 4 hr (x_var 5)) (w_or1 (c_cmp (or_notIn hr) (x_var 8) (x_dget 4 hr (x_var 5))))))
    (b_one (z_ret (x_bl)))
    ((b_nil).to [.im false, .im false, .im false, .im false, .own .dk false, .im false, .no, .no, .im false]))
    (b_cons ((z_dpop 4 (n := 9) (x_var 5) (g_tup (m := 2) rfl (g_cons (g_name 6 nd) (g_cons (g_name 7 nd) (g_nil))) (tgCons_len (tgCons_len tgNil_len)))).to [.im false, .im false, .im false, .im false, .own .dk false, .im false, .im false, .im false, .im false])
    (b_one ((z_set 8 nd (x_sub (x_add (x_var 6) (x_var 7)) (x_var 8))).to [.im false, .im false, .im false, .im false, .own .dk false, .im false, .im false, .im false, .im true])))).to [.im false, .im false, .im false, .im false, .own .dk false, .no, .no, .no, .im false]))
    (b_one (z_ret (x_cmp (or_eq hr) (x_var 8) (x_var 2)))))))) rfl⟩
/-! ### are_apart -/
def g_are_apart_L1 : Gs := gSeqS (gIfS (gTest (gDIn false 1 (gVar 3))) (gRet (gC (.bool false))) (gNext)) (gDPut 1 (gC (.bool true)) (gVar 3))
def g_are_apart_L2 : Gs := gFor (gSeq (gVar 2)) (tgN 3) g_are_apart_L1
def g_are_apart : Gs := gSeqS (gSet 1 (gDNew)) (gSeqS (gFor (gSeq (gVar 0)) (tgN 2) g_are_apart_L2) (gRet (gC (.bool true))))
def f_are_apart : List Dt → O Dt := fnN 4 g_are_apart
theorem ok_are_apart (t : Tx K mg) : FnOk P w K mg base CX0 1 t.a_are_apart t.d_are_apart ["ways"] (spG K mg 1 f_are_apart) := by
  have nd : (["ways", "seen", "way", "moment"] : List Str).Nodup := by decide +kernel
  exact fn_okN t.F_are_apart (Δn := [.im false, .no, .no, .no]) sc_are_apart rfl rfl (by decide) fun cdv A outer s H E hr => ⟨_, BD.frm [.im false, .no, .no, .no] (Δb := kd0 1 4 false) (Δc := kd0 1 4 false)
    (b_cons ((z_setO 1 nd (x_dnew)).to [.im false, .own .dk true, .no, .no])
    (b_cons (z_for (n := 4) .never (i_seq (x_var 0)) (g_name 2 nd)
    ((b_one (z_for (n := 4) .never (i_seq (x_var 2)) (g_name 3 nd)
    ((b_cons (z_if (Δn := [.im false, .own .dk true, .im false, .im false]) (c_din 1 hr (x_var 3))
    (b_one (z_ret (x_bl)))
    ((b_nil).to [.im false, .own .dk true, .im false, .im false]))
    (b_one ((z_dput 1 hr (x_bl) (x_var 3)).to [.im false, .own .dk true, .im false, .im false]))).to [.im false, .own .dk true, .im false, .no]))).to [.im false, .own .dk true, .no, .no]))
    (b_one (z_ret (x_bl))))) rfl⟩
/-! ### many_ways -/
def g_many_ways : Gs := gSeqS (gIfS (gOr (gNot (gTest (gUn (hIsa .list) (gVar 3)))) (gNot (gTest (gCB hAll (gCons (gLc (gSeq (gVar 3)) (tgN 4) (gYes) (gUn (hIsa .list) (gVar 4))) (gNil)))))) (gBad) (gNext)) (gSeqS (gIfS (gOr (gNot (gTest (gCallN 1 f_are_apart (gCons (gVar 3) (gNil))))) (gNot (gTest (gCB hAll (gCons (gLc (gSeq (gVar 3)) (tgN 4) (gYes) (gCallN 4 f_way_right (gCons (gVar 0) (gCons (gVar 1) (gCons (gVar 2) (gCons (gVar 4) (gNil))))))) (gNil)))))) (gBad) (gNext)) (gRet (gCB hLen (gCons (gVar 3) (gNil)))))
def f_many_ways : List Dt → O Dt := fnN 5 g_many_ways
theorem ok_many_ways (t : Tx K mg) : FnOk P w K mg base CX0 2 t.a_many_ways t.d_many_ways ["record", "a", "b", "ways"] (spG K mg 4 f_many_ways) := by
  have G_are_apart := ok_are_apart (P := P) (w := w) (base := base) t
  have G_way_right := ok_way_right (P := P) (w := w) (base := base) t
  have nd : (["record", "a", "b", "ways", "way"] : List Str).Nodup := by decide +kernel
  exact fn_okN t.F_many_ways (Δn := [.im false, .im false, .im false, .im false, .no]) sc_many_ways rfl rfl (by decide) fun cdv A outer s H E hr => ⟨_, BD.frm [.im false, .im false, .im false, .im false, .no] (Δb := kd0 4 5 false) (Δc := kd0 4 5 false)
    (b_cons (z_if (Δn := [.im false, .im false, .im false, .im false, .no]) (c_w (w_or (c_not (c_val (x_isa .list t.n_isinstance t.n_list (x_var 3)))) (w_or1 (c_not (c_val (x_all t.n_all (AD.to true true (a_cons ((x_lc (n := 5) [("way", 4)] nd (i_seq (x_var 3)) (blk_fx (N := ["record", "a", "b", "ways", "way"]) (sc := defScope st_many_ways) (by decide +kernel)) (fun _ _ _ _ _ => g_name 4 nd) (fun _ _ _ _ _ => t_nil) (fun _ _ _ _ _ => x_isa .list t.n_isinstance t.n_list (x_var 4))).nv) (a_nil)))))))))
    (b_one (z_never))
    ((b_nil).to [.im false, .im false, .im false, .im false, .no]))
    (b_cons (z_if (Δn := [.im false, .im false, .im false, .im false, .no]) (c_w (w_or (c_not (c_val (x_callN G_are_apart (hr.mono (by decide)) t.m_are_apart t.F_are_apart.kp t.b_are_apart pass0 (AD.to true false (a_cons (x_var 3) (a_nil)))))) (w_or1 (c_not (c_val (x_all t.n_all (AD.to true true (a_cons ((x_lc (n := 5) [("way", 4)] nd (i_seq (x_var 3)) (blk_fx (N := ["record", "a", "b", "ways", "way"]) (sc := defScope st_many_ways) (by decide +kernel)) (fun _ _ _ _ _ => g_name 4 nd) (fun _ _ _ _ _ => t_nil) (fun _ _ _ _ _ => x_callN G_way_right (hr.mono (by decide)) t.m_way_right t.F_way_right.kp t.b_way_right pass0 (AD.to true false (a_cons (x_var 0) (a_cons (x_var 1) (a_cons (x_var 2) (a_cons (x_var 4) (a_nil)))))))).nv) (a_nil)))))))))
    (b_one (z_never))
    ((b_nil).to [.im false, .im false, .im false, .im false, .no]))
    (b_one (z_ret (x_len t.n_len (AD.to true false (a_cons (x_var 3) (a_nil)))))))) rfl⟩
/-! ### is_side -/
def g_is_side : Gs := gSeqS (gIfS (gOr (gNot (gTest (gUn (hIsa .tuple) (gVar 1)))) (gNot (gTest (gCB hAll (gCons (gLc (gSeq (gVar 1)) (tgN 2) (gYes) (gCallN 2 f_is_place (gCons (gVar 0) (gCons (gVar 2) (gNil))))) (gNil)))))) (gRet (gC (.bool false))) (gNext)) (gRet (gCB hAll (gCons (gLc (gRng2 (gCons (gC (.int (1))) (gCons (gCB hLen (gCons (gVar 1) (gNil))) (gNil)))) (tgN 3) (gYes) (gOp hLt (gOp hIx (gVar 1) (gOp hSub (gVar 3) (gC (.int (1))))) (gOp hIx (gVar 1) (gVar 3)))) (gNil))))
def f_is_side : List Dt → O Dt := fnN 4 g_is_side
theorem ok_is_side (t : Tx K mg) : FnOk P w K mg base CX0 3 t.a_is_side t.d_is_side ["n", "side"] (spG K mg 2 f_is_side) := by
  have G_is_place := ok_is_place (P := P) (w := w) (base := base) t
  have nd : (["n", "side", "place", "at"] : List Str).Nodup := by decide +kernel
  exact fn_okN t.F_is_side (Δn := [.im false, .im false, .no, .no]) sc_is_side rfl rfl (by decide) fun cdv A outer s H E hr => ⟨_, BD.frm [.im false, .im false, .no, .no] (Δb := kd0 2 4 false) (Δc := kd0 2 4 false)
    (b_cons (z_if (Δn := [.im false, .im false, .no, .no]) (c_w (w_or (c_not (c_val (x_isa .tuple t.n_isinstance t.n_tuple (x_var 1)))) (w_or1 (c_not (c_val (x_all t.n_all (AD.to true true (a_cons ((x_lc (n := 4) [("place", 2)] nd (i_seq (x_var 1)) (blk_fx (N := ["n", "side", "place", "at"]) (sc := defScope st_is_side) (by decide +kernel)) (fun _ _ _ _ _ => g_name 2 nd) (fun _ _ _ _ _ => t_nil) (fun _ _ _ _ _ => x_callN G_is_place (hr.mono (by decide)) t.m_is_place t.F_is_place.kp t.b_is_place pass0 (AD.to true false (a_cons (x_var 0) (a_cons (x_var 2) (a_nil)))))).nv) (a_nil)))))))))
    (b_one (z_ret (x_bl)))
    ((b_nil).to [.im false, .im false, .no, .no]))
    (b_one (z_ret (x_all t.n_all (AD.to true true (a_cons ((x_lc (n := 4) [("at", 3)] nd (i_rng2 t.n_range (AD.to true true (a_cons (x_int) (a_cons (x_len t.n_len (AD.to true false (a_cons (x_var 1) (a_nil)))) (a_nil))))) (blk_fx (N := ["n", "side", "place", "at"]) (sc := defScope st_is_side) (by decide +kernel)) (fun _ _ _ _ _ => g_name 3 nd) (fun _ _ _ _ _ => t_nil) (fun _ _ _ _ _ => x_cmp or_lt (x_ix (x_var 1) (x_sub (x_var 3) (x_int))) (x_ix (x_var 1) (x_var 3)))).nv) (a_nil))))))) rfl⟩
/-! ### judged_pair -/
def g_judged_pair : Gs := gSeqS (gAsg (gVar 2) (tgT (tgCons (tgN 3) (tgCons (tgN 4) (tgCons (tgN 5) (tgCons (tgN 6) (tgCons (tgN 7) (tgNil)))))))) (gSeqS (gIfS (gOr (gNot (gTest (gCallN 2 f_is_place (gCons (gVar 0) (gCons (gVar 4) (gNil)))))) (gOr (gNot (gTest (gCallN 2 f_is_place (gCons (gVar 0) (gCons (gVar 5) (gNil)))))) (gOr (gTest (gOp hEq (gVar 4) (gVar 5))) (gOr (gNot (gTest (gCallN 1 f_is_whole (gCons (gVar 6) (gNil))))) (gTest (gOp hLt (gVar 6) (gC (.int (0))))))))) (gBad) (gNext)) (gSeqS (gIfS (gTest (gOp hEq (gVar 3) (gC (.str "ways")))) (gRet (gTup (gCons (gC (.str "at least")) (gCons (gCallN 4 f_many_ways (gCons (gCallN 2 f_since (gCons (gVar 1) (gCons (gVar 6) (gNil)))) (gCons (gVar 4) (gCons (gVar 5) (gCons (gVar 7) (gNil)))))) (gNil))))) (gNext)) (gSeqS (gIfS (gOr (gTest (gOp hNe (gVar 3) (gC (.str "side")))) (gOr (gNot (gTest (gCallN 2 f_is_side (gCons (gVar 0) (gCons (gVar 7) (gNil)))))) (gOr (gTest (gOp hNotIn (gVar 4) (gVar 7))) (gTest (gOp hIn (gVar 5) (gVar 7)))))) (gBad) (gNext)) (gRet (gTup (gCons (gC (.str "at most")) (gCons (gCB hLen (gCons (gCallN 2 f_rim (gCons (gCallN 2 f_since (gCons (gVar 1) (gCons (gVar 6) (gNil)))) (gCons (gVar 7) (gNil)))) (gNil))) (gNil))))))))
def f_judged_pair : List Dt → O Dt := fnN 8 g_judged_pair
theorem ok_judged_pair (t : Tx K mg) : FnOk P w K mg base CX0 4 t.a_judged_pair t.d_judged_pair ["n", "record", "paper"] (spG K mg 3 f_judged_pair) := by
  have G_is_place := ok_is_place (P := P) (w := w) (base := base) t
  have G_is_whole := ok_is_whole (P := P) (w := w) (base := base) t
  have G_many_ways := ok_many_ways (P := P) (w := w) (base := base) t
  have G_since := ok_since (P := P) (w := w) (base := base) t
  have G_is_side := ok_is_side (P := P) (w := w) (base := base) t
  have G_rim := ok_rim (P := P) (w := w) (base := base) t
  have nd : (["n", "record", "paper", "word", "a", "b", "t", "shown"] : List Str).Nodup := by decide +kernel
  exact fn_okN t.F_judged_pair (Δn := [.im false, .im false, .im false, .no, .no, .no, .no, .no]) sc_judged_pair rfl rfl (by decide) fun cdv A outer s H E hr => ⟨_, BD.frm [.im false, .im false, .im false, .no, .no, .no, .no, .no] (Δb := kd0 3 8 false) (Δc := kd0 3 8 false)
    (b_cons ((z_asg (n := 8) (x_var 2) (g_tup (m := 5) rfl (g_cons (g_name 3 nd) (g_cons (g_name 4 nd) (g_cons (g_name 5 nd) (g_cons (g_name 6 nd) (g_cons (g_name 7 nd) (g_nil)))))) (tgCons_len (tgCons_len (tgCons_len (tgCons_len (tgCons_len tgNil_len))))))).to [.im false, .im false, .im false, .im false, .im false, .im false, .im false, .im false])
    (b_cons (z_if (Δn := [.im false, .im false, .im false, .im false, .im false, .im false, .im false, .im false]) (c_w (w_or (c_not (c_val (x_callN G_is_place (hr.mono (by decide)) t.m_is_place t.F_is_place.kp t.b_is_place pass0 (AD.to true false (a_cons (x_var 0) (a_cons (x_var 4) (a_nil))))))) (w_or (c_not (c_val (x_callN G_is_place (hr.mono (by decide)) t.m_is_place t.F_is_place.kp t.b_is_place pass0 (AD.to true false (a_cons (x_var 0) (a_cons (x_var 5) (a_nil))))))) (w_or (c_cmp (or_eq hr) (x_var 4) (x_var 5)) (w_or (c_not (c_val (x_callN G_is_whole (hr.mono (by decide)) t.m_is_whole t.F_is_whole.kp t.b_is_whole pass0 (AD.to true false (a_cons (x_var 6) (a_nil)))))) (w_or1 (c_cmp or_lt (x_var 6) (x_int))))))))
    (b_one (z_never))
    ((b_nil).to [.im false, .im false, .im false, .im false, .im false, .im false, .im false, .im false]))
    (b_cons (z_if (Δn := [.im false, .im false, .im false, .im false, .im false, .im false, .im false, .im false]) (c_cmp (or_eq hr) (x_var 3) (x_str))
    (b_one (z_ret (x_tup (AD.to true true (a_cons (x_str) (a_cons (x_callN G_many_ways (hr.mono (by decide)) t.m_many_ways t.F_many_ways.kp t.b_many_ways pass0 (AD.to true false (a_cons ((x_callL G_since (hr.mono (by decide)) t.m_since t.F_since.kp t.b_since pass0 (AD.to true false (a_cons (x_var 1) (a_cons (x_var 6) (a_nil))))).nv) (a_cons (x_var 4) (a_cons (x_var 5) (a_cons (x_var 7) (a_nil))))))) (a_nil)))))))
    ((b_nil).to [.im false, .im false, .im false, .im false, .im false, .im false, .im false, .im false]))
    (b_cons (z_if (Δn := [.im false, .im false, .im false, .im false, .im false, .im false, .im false, .im false]) (c_w (w_or (c_cmp (or_ne hr) (x_var 3) (x_str)) (w_or (c_not (c_val (x_callN G_is_side (hr.mono (by decide)) t.m_is_side t.F_is_side.kp t.b_is_side pass0 (AD.to true false (a_cons (x_var 0) (a_cons (x_var 7) (a_nil))))))) (w_or (c_cmp (or_notIn hr) (x_var 4) (x_var 7)) (w_or1 (c_cmp (or_in hr) (x_var 5) (x_var 7)))))))
    (b_one (z_never))
    ((b_nil).to [.im false, .im false, .im false, .im false, .im false, .im false, .im false, .im false]))
    (b_one (z_ret (x_tup (AD.to true true (a_cons (x_str) (a_cons (x_len t.n_len (AD.to true true (a_cons ((x_callL G_rim (hr.mono (by decide)) t.m_rim t.F_rim.kp t.b_rim pass0 (AD.to true false (a_cons ((x_callL G_since (hr.mono (by decide)) t.m_since t.F_since.kp t.b_since pass0 (AD.to true false (a_cons (x_var 1) (a_cons (x_var 6) (a_nil))))).nv) (a_cons (x_var 7) (a_nil))))).nv) (a_nil)))) (a_nil))))))))))) rfl⟩
/-! ### judged_out -/
def g_judged_out_L1 : Gs := gIfS (gAnd (gTest (gOp hEq (gOp hIx (gVar 5) (gC (.int (0)))) (gVar 3))) (gTest (gOp hNe (gOp hIx (gVar 5) (gC (.int (1)))) (gOp hIx (gVar 5) (gC (.int (2))))))) (gRet (gTup (gCons (gC (.str "out")) (gCons (gCallN 4 f_many_ways (gCons (gCallN 2 f_since (gCons (gVar 0) (gCons (gOp hAdd (gVar 3) (gC (.int (1)))) (gNil)))) (gCons (gOp hIx (gVar 5) (gC (.int (1)))) (gCons (gOp hIx (gVar 5) (gC (.int (2)))) (gCons (gVar 4) (gNil)))))) (gNil))))) (gNext)
def g_judged_out : Gs := gSeqS (gAsg (gVar 1) (tgT (tgCons (tgN 2) (tgCons (tgN 3) (tgCons (tgN 4) (tgNil)))))) (gSeqS (gIfS (gOr (gTest (gOp hNe (gVar 2) (gC (.str "out")))) (gNot (gTest (gCallN 1 f_is_whole (gCons (gVar 3) (gNil)))))) (gBad) (gNext)) (gSeqS (gFor (gSeq (gVar 0)) (tgN 5) g_judged_out_L1) (gBad)))
def f_judged_out : List Dt → O Dt := fnN 6 g_judged_out
theorem ok_judged_out (t : Tx K mg) : FnOk P w K mg base CX0 3 t.a_judged_out t.d_judged_out ["record", "paper"] (spG K mg 2 f_judged_out) := by
  have G_is_whole := ok_is_whole (P := P) (w := w) (base := base) t
  have G_many_ways := ok_many_ways (P := P) (w := w) (base := base) t
  have G_since := ok_since (P := P) (w := w) (base := base) t
  have nd : (["record", "paper", "word", "moment", "ways", "tie"] : List Str).Nodup := by decide +kernel
  exact fn_okN t.F_judged_out (Δn := [.im false, .im false, .no, .no, .no, .no]) sc_judged_out rfl rfl (by decide) fun cdv A outer s H E hr => ⟨_, BD.frm [.im false, .im false, .no, .no, .no, .no] (Δb := kd0 2 6 false) (Δc := kd0 2 6 false)
    (b_cons ((z_asg (n := 6) (x_var 1) (g_tup (m := 3) rfl (g_cons (g_name 2 nd) (g_cons (g_name 3 nd) (g_cons (g_name 4 nd) (g_nil)))) (tgCons_len (tgCons_len (tgCons_len tgNil_len))))).to [.im false, .im false, .im false, .im false, .im false, .no])
    (b_cons (z_if (Δn := [.im false, .im false, .im false, .im false, .im false, .no]) (c_w (w_or (c_cmp (or_ne hr) (x_var 2) (x_str)) (w_or1 (c_not (c_val (x_callN G_is_whole (hr.mono (by decide)) t.m_is_whole t.F_is_whole.kp t.b_is_whole pass0 (AD.to true false (a_cons (x_var 3) (a_nil)))))))))
    (b_one (z_never))
    ((b_nil).to [.im false, .im false, .im false, .im false, .im false, .no]))
    (b_cons (z_for (n := 6) .never (i_seq (x_var 0)) (g_name 5 nd)
    ((b_one (z_if (Δn := [.im false, .im false, .im false, .im false, .im false, .im false]) (c_w (w_and (c_cmp (or_eq hr) (x_ix (x_var 5) (x_int)) (x_var 3)) (w_and1 (c_cmp (or_ne hr) (x_ix (x_var 5) (x_int)) (x_ix (x_var 5) (x_int))))))
    (b_one (z_ret (x_tup (AD.to true true (a_cons (x_str) (a_cons (x_callN G_many_ways (hr.mono (by decide)) t.m_many_ways t.F_many_ways.kp t.b_many_ways pass0 (AD.to true false (a_cons ((x_callL G_since (hr.mono (by decide)) t.m_since t.F_since.kp t.b_since pass0 (AD.to true false (a_cons (x_var 0) (a_cons (x_add (x_var 3) (x_int)) (a_nil))))).nv) (a_cons (x_ix (x_var 5) (x_int)) (a_cons (x_ix (x_var 5) (x_int)) (a_cons (x_var 4) (a_nil))))))) (a_nil)))))))
    ((b_nil).to [.im false, .im false, .im false, .im false, .im false, .im false]))).to [.im false, .im false, .im false, .im false, .im false, .no]))
    (b_one (z_never))))) rfl⟩
/-! ### judged -/
def g_judged : Gs := gSeqS (gIfS (gTest (gOp hEq (gCB hLen (gCons (gVar 2) (gNil))) (gC (.int (5))))) (gRet (gCallN 3 f_judged_pair (gCons (gVar 0) (gCons (gVar 1) (gCons (gVar 2) (gNil)))))) (gNext)) (gSeqS (gIfS (gTest (gOp hEq (gCB hLen (gCons (gVar 2) (gNil))) (gC (.int (3))))) (gRet (gCallN 2 f_judged_out (gCons (gVar 1) (gCons (gVar 2) (gNil))))) (gNext)) (gBad))
def f_judged : List Dt → O Dt := fnN 3 g_judged
theorem ok_judged (t : Tx K mg) : FnOk P w K mg base CX0 5 t.a_judged t.d_judged ["n", "record", "paper"] (spG K mg 3 f_judged) := by
  have G_judged_pair := ok_judged_pair (P := P) (w := w) (base := base) t
  have G_judged_out := ok_judged_out (P := P) (w := w) (base := base) t
  have nd : (["n", "record", "paper"] : List Str).Nodup := by decide +kernel
  exact fn_okN t.F_judged (Δn := [.im false, .im false, .im false]) sc_judged rfl rfl (by decide) fun cdv A outer s H E hr => ⟨_, BD.frm [.im false, .im false, .im false] (Δb := kd0 3 3 false) (Δc := kd0 3 3 false)
    (b_cons (z_if (Δn := [.im false, .im false, .im false]) (c_cmp (or_eq hr) (x_len t.n_len (AD.to true false (a_cons (x_var 2) (a_nil)))) (x_int))
    (b_one (z_ret (x_callN G_judged_pair (hr.mono (by decide)) t.m_judged_pair t.F_judged_pair.kp t.b_judged_pair pass0 (AD.to true false (a_cons (x_var 0) (a_cons (x_var 1) (a_cons (x_var 2) (a_nil))))))))
    ((b_nil).to [.im false, .im false, .im false]))
    (b_cons (z_if (Δn := [.im false, .im false, .im false]) (c_cmp (or_eq hr) (x_len t.n_len (AD.to true false (a_cons (x_var 2) (a_nil)))) (x_int))
    (b_one (z_ret (x_callN G_judged_out (hr.mono (by decide)) t.m_judged_out t.F_judged_out.kp t.b_judged_out pass0 (AD.to true false (a_cons (x_var 1) (a_cons (x_var 2) (a_nil)))))))
    ((b_nil).to [.im false, .im false, .im false]))
    (b_one (z_never)))) rfl⟩
/-! ### is_depth -/
abbrev g_is_depth : Gs := FamL.g_is_depth
abbrev f_is_depth : List Dt → O Dt := FamL.f_is_depth
theorem ok_is_depth (t : Tx K mg) : FnOk P w K mg base CX0 2 t.a_is_depth t.d_is_depth ["thing"] (spG K mg 1 f_is_depth) := by
  obtain ⟨_, h_MOST_LAYERS⟩ := t.c_MOST_LAYERS
  have G_is_whole := ok_is_whole (P := P) (w := w) (base := base) t
  have nd : (["thing"] : List Str).Nodup := by decide +kernel
  exact fn_okN t.F_is_depth (Δn := [.im false]) sc_is_depth rfl rfl (by decide) fun cdv A outer s H E hr => ⟨_, BD.frm [.im false] (Δb := kd0 1 1 false) (Δc := kd0 1 1 false)
    (b_one (z_ret (x_and (x_callN G_is_whole (hr.mono (by decide)) t.m_is_whole t.F_is_whole.kp t.b_is_whole pass0 (AD.to true false (a_cons (x_var 0) (a_nil)))) (x_one (x_chain or_le or_le (x_int) (x_var 0) (x_glob (v := .int (6)) h_MOST_LAYERS ⟨_, rfl⟩ (.int _))))))) rfl⟩
/-! ### look_at_layers -/
abbrev g_look_at_layers : Gs := FamL.g_look_at_layers
abbrev f_look_at_layers : List Dt → O Dt := FamL.f_look_at_layers
theorem ok_look_at_layers (t : Tx K mg) : FnOk P w K mg base CX0 3 t.a_look_at_layers t.d_look_at_layers ["k"] (spG K mg 1 f_look_at_layers) := by
  have G_is_depth := ok_is_depth (P := P) (w := w) (base := base) t
  have nd : (["k"] : List Str).Nodup := by decide +kernel
  exact fn_okN t.F_look_at_layers (Δn := [.im false]) sc_look_at_layers rfl rfl (by decide) fun cdv A outer s H E hr => ⟨_, BD.frm [.im false] (Δb := kd0 1 1 false) (Δc := kd0 1 1 false)
    (BD.to [.im false] (b_one (z_if (Δn := [.im false]) (c_not (c_val (x_callN G_is_depth (hr.mono (by decide)) t.m_is_depth t.F_is_depth.kp t.b_is_depth pass0 (AD.to true false (a_cons (x_var 0) (a_nil))))))
    (b_one (z_never))
    ((b_nil).to [.im false])))) rfl⟩
/-! ### layer_for -/
abbrev g_layer_for : Gs := FamL.g_layer_for
abbrev f_layer_for : List Dt → O Dt := FamL.f_layer_for
theorem ok_layer_for (t : Tx K mg) : FnOk P w K mg base CX0 1 t.a_layer_for t.d_layer_for ["marks", "a", "b"] (spG K mg 3 f_layer_for) := by
  have nd : (["marks", "a", "b", "j", "row"] : List Str).Nodup := by decide +kernel
  exact fn_okN t.F_layer_for (Δn := [.im false, .im false, .im false, .no, .no]) sc_layer_for rfl rfl (by decide) fun cdv A outer s H E hr => ⟨_, BD.frm [.im false, .im false, .im false, .no, .no] (Δb := kd0 3 5 false) (Δc := kd0 3 5 false)
    (b_cons (z_for (n := 5) .never (i_enum t.n_enumerate (AD.to true false (a_cons (x_var 0) (a_nil)))) (g_tup (m := 2) rfl (g_cons (g_name 3 nd) (g_cons (g_name 4 nd) (g_nil))) (tgCons_len (tgCons_len tgNil_len)))
    ((b_one (z_if (Δn := [.im false, .im false, .im false, .im false, .im false]) (c_cmp (or_ne hr) (x_ix (x_var 4) (x_var 1)) (x_ix (x_var 4) (x_var 2)))
    (b_one (z_ret (x_add (x_var 3) (x_int))))
    ((b_nil).to [.im false, .im false, .im false, .im false, .im false]))).to [.im false, .im false, .im false, .no, .no]))
    (b_one (z_ret (x_int)))) rfl⟩
/-! ### layered -/
abbrev g_layered : Gs := FamL.g_layered
abbrev f_layered : List Dt → O Dt := FamL.f_layered
theorem ok_layered (t : Tx K mg) : FnOk P w K mg base CX0 4 t.a_layered t.d_layered ["n", "record", "k"] (spL K mg 3 f_layered) := by
  have G_look_at_layers := ok_look_at_layers (P := P) (w := w) (base := base) t
  have G_layer_for := ok_layer_for (P := P) (w := w) (base := base) t
  have G_joined := ok_joined (P := P) (w := w) (base := base) t
  have nd : (["n", "record", "k", "marks", "j", "numbers", "moment", "a", "b"] : List Str).Nodup := by decide +kernel
  exact fn_okL t.F_layered (Δn := [.im false, .im false, .im false, .no, .no, .no, .no, .no, .no]) sc_layered rfl rfl (by decide) fun cdv A outer s H E hr => ⟨_, BD.frm [.im false, .im false, .im false, .no, .no, .no, .no, .no, .no] (Δb := kd0 3 9 false) (Δc := kd0 3 9 false)
    (b_cons ((z_expr (x_callN G_look_at_layers (hr.mono (by decide)) t.m_look_at_layers t.F_look_at_layers.kp t.b_look_at_layers pass0 (AD.to true false (a_cons (x_var 2) (a_nil))))).to [.im false, .im false, .im false, .no, .no, .no, .no, .no, .no])
    (b_cons ((z_setLc 3 (n := 9) [("j", 4)] nd (i_rng1 t.n_range (AD.to true false (a_cons (x_var 2) (a_nil)))) (blk_fx (N := ["n", "record", "k", "marks", "j", "numbers", "moment", "a", "b"]) (sc := defScope st_layered) (by decide +kernel)) (fun _ _ _ _ _ => g_name 4 nd) (fun _ _ _ _ _ => t_nil) (fun _ _ _ _ _ => (x_lrng1 t.n_list t.n_range (x_var 0)).nv) (sw_true rfl rfl rfl (by decide +kernel))).to [.im false, .im false, .im false, .own .l true, .no, .no, .no, .no, .no])
    (b_cons ((z_setO 5 nd (x_lst (a_nil))).to [.im false, .im false, .im false, .own .l true, .no, .own .l true, .no, .no, .no])
    (b_cons (z_for (n := 9) .never (i_rev t.n_reversed (AD.to true false (a_cons (x_var 1) (a_nil)))) (g_tup (m := 3) rfl (g_cons (g_name 6 nd) (g_cons (g_name 7 nd) (g_cons (g_name 8 nd) (g_nil)))) (tgCons_len (tgCons_len (tgCons_len tgNil_len))))
    ((b_cons ((z_set 4 nd (x_callN G_layer_for (hr.mono (by decide)) t.m_layer_for t.F_layer_for.kp t.b_layer_for pass0 (AD.to false false (a_cons ((x_own 3).ov) (a_cons (x_var 7) (a_cons (x_var 8) (a_nil))))))).to [.im false, .im false, .im false, .own .l true, .im true, .own .l true, .im false, .im false, .im false])
    (b_cons (z_if (Δn := [.im false, .im false, .im false, .own .l true, .im true, .own .l true, .im false, .im false, .im false]) (c_cmp or_gt (x_var 4) (x_int))
    ((b_one ((z_setI 3 ((x_callL G_joined (hr.mono (by decide)) t.m_joined t.F_joined.kp t.b_joined pass0 (AD.to true false (a_cons (x_ixO (x_own 3) (x_sub (x_var 4) (x_int))) (a_cons (x_var 7) (a_cons (x_var 8) (a_nil)))))).nv) (x_sub (x_var 4) (x_int))).to [.im false, .im false, .im false, .own .l true, .im true, .own .l true, .im false, .im false, .im false])).to [.im false, .im false, .im false, .own .l true, .im true, .own .l true, .im false, .im false, .im false])
    ((b_nil).to [.im false, .im false, .im false, .own .l true, .im true, .own .l true, .im false, .im false, .im false]))
    (b_one ((z_app 5 (x_var 4)).to [.im false, .im false, .im false, .own .l true, .im true, .own .l true, .im false, .im false, .im false])))).to [.im false, .im false, .im false, .own .l true, .no, .own .l true, .no, .no, .no]))
    (b_one (z_retL (x_lrevO t.n_list t.n_reversed (x_own 5)))))))) rfl⟩
/-! ### way_in -/
def g_way_in_L1 : Gs := gIfS (gTest (gOp hIn (gOp hIx (gVar 4) (gVar 5)) (gTup (gCons (gVar 7) (gCons (gVar 8) (gNil)))))) (gSeqS (gSet 9 (gOp hSub (gOp hAdd (gVar 7) (gVar 8)) (gOp hIx (gVar 4) (gVar 5)))) (gIfS (gTest (gDIn true 3 (gVar 9))) (gSeqS (gDPut 3 (gOp hCat (gDGet 3 (gOp hIx (gVar 4) (gVar 5))) (gLst (gCons (gVar 6) (gNil)))) (gVar 9)) (gApp 4 (gVar 9))) (gNext))) (gNext)
def g_way_in_L2 : Gs := gSeqS (gFor (gSeq (gVar 0)) (tgT (tgCons (tgN 6) (tgCons (tgN 7) (tgCons (tgN 8) (tgNil))))) g_way_in_L1) (gAug (fun i j => i + j) 5 (gC (.int (1))))
def g_way_in_T2 : List Dt → O Bool := gTest (gDIn true 3 (gVar 2))
def g_way_in : Gs := gSeqS (gSet 3 (gDNew1 (gVar 1) (gLst (gNil)))) (gSeqS (gSet 4 (gLst (gCons (gVar 1) (gNil)))) (gSeqS (gSet 5 (gC (.int (0)))) (gSeqS (gWhile g_way_in_T2 g_way_in_L2 20) (gRet (gDGet 3 (gVar 2))))))
def f_way_in : List Dt → O Dt := fnN 10 g_way_in
theorem ok_way_in (t : Tx K mg) : FnOk P w K mg base CX0 1 t.a_way_in t.d_way_in ["ties", "a", "b"] (spA K mg 3 f_way_in) := by
  have nd : (["ties", "a", "b", "came", "line", "at", "moment", "one", "other", "to"] : List Str).Nodup := by decide +kernel
  exact fn_okA t.F_way_in (Δn := [.im true, .im true, .im true, .no, .no, .no, .no, .no, .no, .no]) sc_way_in rfl rfl (by decide) fun cdv A outer s H E hr => ⟨_, BD.frm [.im true, .im true, .im true, .no, .no, .no, .no, .no, .no, .no] (Δb := kd0 3 10 true) (Δc := kd0 3 10 true)
    (b_cons ((z_setO 3 nd (x_dnew1 (x_var 1) ((x_lst (a_nil)).nv))).to [.im true, .im true, .im true, .own .dk true, .no, .no, .no, .no, .no, .no])
    (b_cons ((z_setO 4 nd (x_lst (AD.to true true (a_cons (x_var 1) (a_nil))))).to [.im true, .im true, .im true, .own .dk true, .own .l true, .no, .no, .no, .no, .no])
    (b_cons ((z_set 5 nd (x_int)).to [.im true, .im true, .im true, .own .dk true, .own .l true, .im true, .no, .no, .no, .no])
    (b_cons (z_while 20 .never (c_dnin 3 hr (x_var 2))
    ((b_cons (z_for (n := 10) .never (i_seq (x_var 0)) (g_tup (m := 3) rfl (g_cons (g_name 6 nd) (g_cons (g_name 7 nd) (g_cons (g_name 8 nd) (g_nil)))) (tgCons_len (tgCons_len (tgCons_len tgNil_len))))
    ((b_one (z_if (Δn := [.im true, .im true, .im true, .own .dk true, .own .l true, .im true, .im true, .im true, .im true, .no]) (c_cmp (or_in hr) (x_ixO (x_own 4) (x_var 5)) (x_tup (AD.to true true (a_cons (x_var 7) (a_cons (x_var 8) (a_nil))))))
    ((b_cons ((z_set 9 nd (x_sub (x_add (x_var 7) (x_var 8)) (x_ixO (x_own 4) (x_var 5)))).to [.im true, .im true, .im true, .own .dk true, .own .l true, .im true, .im true, .im true, .im true, .im true])
    (b_one (z_if (Δn := [.im true, .im true, .im true, .own .dk true, .own .l true, .im true, .im true, .im true, .im true, .im true]) (c_dnin 3 hr (x_var 9))
    ((b_cons ((z_dput 3 hr ((PD.wkN true (x_cat (x_dget 3 hr (x_ixO (x_own 4) (x_var 5))) ((x_lst (AD.to true true (a_cons (x_var 6) (a_nil)))).nv))).nv) (x_var 9)).to [.im true, .im true, .im true, .own .dk true, .own .l true, .im true, .im true, .im true, .im true, .im true])
    (b_one ((z_app 4 (x_var 9)).to [.im true, .im true, .im true, .own .dk true, .own .l true, .im true, .im true, .im true, .im true, .im true]))).to [.im true, .im true, .im true, .own .dk true, .own .l true, .im true, .im true, .im true, .im true, .im true])
    ((b_nil).to [.im true, .im true, .im true, .own .dk true, .own .l true, .im true, .im true, .im true, .im true, .im true])))).to [.im true, .im true, .im true, .own .dk true, .own .l true, .im true, .im true, .im true, .im true, .no])
    ((b_nil).to [.im true, .im true, .im true, .own .dk true, .own .l true, .im true, .im true, .im true, .im true, .no]))).to [.im true, .im true, .im true, .own .dk true, .own .l true, .im true, .no, .no, .no, .no]))
    (b_one ((z_augA 5 nd (x_int)).to [.im true, .im true, .im true, .own .dk true, .own .l true, .im true, .no, .no, .no, .no]))).to [.im true, .im true, .im true, .own .dk true, .own .l true, .im true, .no, .no, .no, .no]))
    (b_one (z_ret (x_dget 3 hr (x_var 2)))))))) rfl⟩
/-! ### strands -/
def g_strands_L1 : Gs := gSeqS (gSet 8 (gLc (gRng2 (gCons (gOp hAdd (gVar 3) (gC (.int (1)))) (gCons (gCB hLen (gCons (gVar 1) (gNil))) (gNil)))) (tgN 9) (gTest (gOp hEq (gOp hIx (gVar 4) (gVar 9)) (gVar 7))) (gOp hIx (gVar 1) (gVar 9)))) (gApp 6 (gCallN 3 f_way_in (gCons (gVar 8) (gCons (gOp hIx (gOp hIx (gVar 1) (gVar 3)) (gC (.int (1)))) (gCons (gOp hIx (gOp hIx (gVar 1) (gVar 3)) (gC (.int (2)))) (gNil))))))
def g_strands : Gs := gSeqS (gSet 4 (gCallN 3 f_layered (gCons (gVar 0) (gCons (gVar 1) (gCons (gVar 2) (gNil)))))) (gSeqS (gSet 5 (gOp hSub (gOp hIx (gVar 4) (gVar 3)) (gC (.int (1))))) (gSeqS (gIfS (gTest (gOp hEq (gOp hIx (gVar 4) (gVar 3)) (gC (.int (0))))) (gSet 5 (gVar 2)) (gNext)) (gSeqS (gSet 6 (gLst (gNil))) (gSeqS (gFor (gRng2 (gCons (gC (.int (1))) (gCons (gOp hAdd (gVar 5) (gC (.int (1)))) (gNil)))) (tgN 7) g_strands_L1) (gRet (gVar 6))))))
def f_strands : List Dt → O Dt := fnN 10 g_strands
theorem ok_strands (t : Tx K mg) : FnOk P w K mg base CX0 5 t.a_strands t.d_strands ["n", "record", "k", "at"] (spA K mg 4 f_strands) := by
  have G_layered := ok_layered (P := P) (w := w) (base := base) t
  have G_way_in := ok_way_in (P := P) (w := w) (base := base) t
  have nd : (["n", "record", "k", "at", "numbers", "ahead", "found", "j", "ties", "later"] : List Str).Nodup := by decide +kernel
  exact fn_okA t.F_strands (Δn := [.im true, .im true, .im true, .im true, .no, .no, .no, .no, .no, .no]) sc_strands rfl rfl (by decide) fun cdv A outer s H E hr => ⟨_, BD.frm [.im true, .im true, .im true, .im true, .no, .no, .no, .no, .no, .no] (Δb := kd0 4 10 true) (Δc := kd0 4 10 true)
    (b_cons ((z_set 4 nd ((x_callL G_layered (hr.mono (by decide)) t.m_layered t.F_layered.kp t.b_layered pass0 (AD.to true true (a_cons (x_var 0) (a_cons (x_var 1) (a_cons (x_var 2) (a_nil)))))).nv)).to [.im true, .im true, .im true, .im true, .im true, .no, .no, .no, .no, .no])
    (b_cons ((z_set 5 nd (x_sub (x_ix (x_var 4) (x_var 3)) (x_int))).to [.im true, .im true, .im true, .im true, .im true, .im true, .no, .no, .no, .no])
    (b_cons (z_if (Δn := [.im true, .im true, .im true, .im true, .im true, .im true, .no, .no, .no, .no]) (c_cmp (or_eq hr) (x_ix (x_var 4) (x_var 3)) (x_int))
    ((b_one ((z_set 5 nd (x_var 2)).to [.im true, .im true, .im true, .im true, .im true, .im true, .no, .no, .no, .no])).to [.im true, .im true, .im true, .im true, .im true, .im true, .no, .no, .no, .no])
    ((b_nil).to [.im true, .im true, .im true, .im true, .im true, .im true, .no, .no, .no, .no]))
    (b_cons ((z_setO 6 nd (x_lst (a_nil))).to [.im true, .im true, .im true, .im true, .im true, .im true, .own .l true, .no, .no, .no])
    (b_cons (z_for (n := 10) .never (i_rng2 t.n_range (AD.to true true (a_cons (x_int) (a_cons (x_add (x_var 5) (x_int)) (a_nil))))) (g_name 7 nd)
    ((b_cons ((z_setLc 8 (n := 10) [("later", 9)] nd (i_rng2 t.n_range (AD.to true true (a_cons (x_add (x_var 3) (x_int)) (a_cons (x_len t.n_len (AD.to true true (a_cons (x_var 1) (a_nil)))) (a_nil))))) (blk_fx (N := ["n", "record", "k", "at", "numbers", "ahead", "found", "j", "ties", "later"]) (sc := defScope st_strands) (by decide +kernel)) (fun _ _ _ _ _ => g_name 9 nd) (fun _ _ _ _ _ => t_one (c_cmp (or_eq hr) (x_ix (x_var 4) (x_var 9)) (x_var 7))) (fun _ _ _ _ _ => x_ix (x_var 1) (x_var 9)) (sw_true rfl rfl rfl (by decide +kernel))).to [.im true, .im true, .im true, .im true, .im true, .im true, .own .l true, .im true, .im true, .no])
    (b_one ((z_app 6 (x_callA G_way_in (hr.mono (by decide)) t.m_way_in t.F_way_in.kp t.b_way_in pass0 (AD.to true true (a_cons (x_var 8) (a_cons (x_ix (x_ix (x_var 1) (x_var 3)) (x_int)) (a_cons (x_ix (x_ix (x_var 1) (x_var 3)) (x_int)) (a_nil))))))).to [.im true, .im true, .im true, .im true, .im true, .im true, .own .l true, .im true, .im true, .no]))).to [.im true, .im true, .im true, .im true, .im true, .im true, .own .l true, .no, .no, .no]))
    (b_one (z_ret ((x_own 6).ov)))))))) rfl⟩
/-! ### _law_mixed -/
abbrev g_l_mixed : Gs := FamA.g_l_mixed
abbrev f_l_mixed : List Dt → O Dt := FamA.f_l_mixed
theorem ok_l_mixed (t : Tx K mg) : FnOk P w K mg base CX0 1 t.a_l_mixed t.d_l_mixed ["cell", "k"] (spG K mg 2 f_l_mixed) := by
  have nd : (["cell", "k", "number"] : List Str).Nodup := by decide +kernel
  exact fn_okN t.F_l_mixed (Δn := [.im false, .im false, .no]) sc_l_mixed rfl rfl (by decide) fun cdv A outer s H E hr => ⟨_, BD.frm [.im false, .im false, .no] (Δb := kd0 2 3 false) (Δc := kd0 2 3 false)
    (b_cons ((z_set 2 nd (x_mod (x_mul (x_add (x_add (x_mod (x_var 0) (x_int)) (x_mul (x_int) (x_var 1))) (x_int)) (x_int)) (x_int))).to [.im false, .im false, .im true])
    (b_cons ((z_set 2 nd (x_mod (x_add (x_mod (x_mul (x_var 2) (x_var 2)) (x_int)) (x_mul (x_int) (x_var 1))) (x_int))).to [.im false, .im false, .im true])
    (b_one (z_ret (x_mod (x_mul (x_var 2) (x_int)) (x_int)))))) rfl⟩
/-! ### _law_numbers -/
abbrev g_l_numbers : Gs := FamA.g_l_numbers
abbrev f_l_numbers : List Dt → O Dt := FamA.f_l_numbers
theorem ok_l_numbers (t : Tx K mg) : FnOk P w K mg base CX0 2 t.a_l_numbers t.d_l_numbers ["cell", "many", "base"] (spL K mg 3 f_l_numbers) := by
  have G_l_mixed := ok_l_mixed (P := P) (w := w) (base := base) t
  have nd : (["cell", "many", "base", "found", "left", "k", "number", "turns"] : List Str).Nodup := by decide +kernel
  exact fn_okL t.F_l_numbers (Δn := [.im false, .im false, .im false, .no, .no, .no, .no, .no]) sc_l_numbers rfl rfl (by decide) fun cdv A outer s H E hr => ⟨_, BD.frm [.im false, .im false, .im false, .no, .no, .no, .no, .no] (Δb := kd0 3 8 false) (Δc := kd0 3 8 false)
    (b_cons ((z_setO 3 nd (x_lst (a_nil))).to [.im false, .im false, .im false, .own .l true, .no, .no, .no, .no])
    (b_cons ((z_set 4 nd (x_sub (x_var 0) (x_pow (x_int) (x_int)))).to [.im false, .im false, .im false, .own .l true, .im true, .no, .no, .no])
    (b_cons (z_for (n := 8) .never (i_rng1 t.n_range (AD.to true false (a_cons (x_var 1) (a_nil)))) (g_name 5 nd)
    ((b_cons ((z_set 6 nd (x_var 4)).to [.im false, .im false, .im false, .own .l true, .im true, .im true, .im true, .no])
    (b_cons (z_if (Δn := [.im false, .im false, .im false, .own .l true, .im true, .im true, .im true, .no]) (c_cmp or_gt (x_var 4) (x_int))
    ((b_one ((z_set 4 nd (x_div (x_var 4) (x_var 2))).to [.im false, .im false, .im false, .own .l true, .im true, .im true, .im true, .no])).to [.im false, .im false, .im false, .own .l true, .im true, .im true, .im true, .no])
    ((b_cons ((z_set 6 nd (x_int)).to [.im false, .im false, .im false, .own .l true, .im true, .im true, .im true, .no])
    (b_cons ((z_set 7 nd (x_int)).to [.im false, .im false, .im false, .own .l true, .im true, .im true, .im true, .im true])
    (b_one (z_while 100 .never (c_cmp or_lt (x_mul (x_var 7) (x_int)) (x_add (x_bits (x_var 2)) (x_int)))
    ((b_cons ((z_set 6 nd (x_add (x_mul (x_var 6) (x_int)) (x_callN G_l_mixed (hr.mono (by decide)) t.m_l_mixed t.F_l_mixed.kp t.b_l_mixed pass0 (AD.to true false (a_cons (x_var 0) (a_cons (x_add (x_mul (x_int) (x_var 5)) (x_var 7)) (a_nil))))))).to [.im false, .im false, .im false, .own .l true, .im true, .im true, .im true, .im true])
    (b_one ((z_set 7 nd (x_add (x_var 7) (x_int))).to [.im false, .im false, .im false, .own .l true, .im true, .im true, .im true, .im true]))).to [.im false, .im false, .im false, .own .l true, .im true, .im true, .im true, .im true]))))).to [.im false, .im false, .im false, .own .l true, .im true, .im true, .im true, .no]))
    (b_one ((z_app 3 (x_mod (x_var 6) (x_var 2))).to [.im false, .im false, .im false, .own .l true, .im true, .im true, .im true, .no])))).to [.im false, .im false, .im false, .own .l true, .im true, .no, .no, .no]))
    (b_one (z_retO 3))))) rfl⟩
/-! ### _law_ends -/
abbrev g_l_ends : Gs := FamA.g_l_ends
abbrev f_l_ends : List Dt → O Dt := FamA.f_l_ends
theorem ok_l_ends (t : Tx K mg) : FnOk P w K mg base CX0 1 t.a_l_ends t.d_l_ends ["n", "kind", "one", "other"] (spG K mg 4 f_l_ends) := by
  have nd : (["n", "kind", "one", "other", "a"] : List Str).Nodup := by decide +kernel
  exact fn_okN t.F_l_ends (Δn := [.im false, .im false, .im false, .im false, .no]) sc_l_ends rfl rfl (by decide) fun cdv A outer s H E hr => ⟨_, BD.frm [.im false, .im false, .im false, .im false, .no] (Δb := kd0 4 5 false) (Δc := kd0 4 5 false)
    (b_cons ((z_set 4 nd (x_mod (x_var 2) (x_var 0))).to [.im false, .im false, .im false, .im false, .im true])
    (b_cons (z_if (Δn := [.im false, .im false, .im false, .im false, .im true]) (c_cmp (or_eq hr) (x_var 1) (x_int))
    (b_one (z_ret (x_tup (AD.to true true (a_cons (x_var 4) (a_cons (x_mod (x_var 3) (x_var 0)) (a_nil)))))))
    ((b_nil).to [.im false, .im false, .im false, .im false, .im true]))
    (b_cons (z_if (Δn := [.im false, .im false, .im false, .im false, .im true]) (c_cmp (or_eq hr) (x_var 1) (x_int))
    (b_one (z_ret (x_tup (AD.to true true (a_cons (x_mod (x_var 2) (x_min2 t.n_min (AD.to true false (a_cons (x_var 0) (a_cons (x_int) (a_nil)))))) (a_cons (x_mod (x_var 3) (x_min2 t.n_min (AD.to true false (a_cons (x_var 0) (a_cons (x_int) (a_nil)))))) (a_nil)))))))
    ((b_nil).to [.im false, .im false, .im false, .im false, .im true]))
    (b_cons (z_if (Δn := [.im false, .im false, .im false, .im false, .im true]) (c_cmp (or_eq hr) (x_var 1) (x_int))
    (b_one (z_ret (x_tup (AD.to true true (a_cons (x_var 4) (a_cons (x_mod (x_add (x_add (x_var 4) (x_int)) (x_div (x_mod (x_var 3) (x_int)) (x_int))) (x_var 0)) (a_nil)))))))
    ((b_nil).to [.im false, .im false, .im false, .im false, .im true]))
    (b_one (z_ret (x_tup (AD.to true true (a_cons (x_var 4) (a_cons (x_mod (x_add (x_var 4) (x_mul (x_int) (x_mod (x_var 3) (x_var 0)))) (x_var 0)) (a_nil))))))))))) rfl⟩
/-! ### _law_record -/
abbrev g_l_record : Gs := FamA.g_l_record
abbrev f_l_record : List Dt → O Dt := FamA.f_l_record
theorem ok_l_record (t : Tx K mg) : FnOk P w K mg base CX0 2 t.a_l_record t.d_l_record ["numbers", "most"] (spG K mg 2 f_l_record) := by
  have G_l_ends := ok_l_ends (P := P) (w := w) (base := base) t
  have nd : (["numbers", "most", "n", "many", "wide", "moment", "record", "k", "a", "b"] : List Str).Nodup := by decide +kernel
  exact fn_okN t.F_l_record (Δn := [.im false, .im false, .no, .no, .no, .no, .no, .no, .no, .no]) sc_l_record rfl rfl (by decide) fun cdv A outer s H E hr => ⟨_, BD.frm [.im false, .im false, .no, .no, .no, .no, .no, .no, .no, .no] (Δb := kd0 2 10 false) (Δc := kd0 2 10 false)
    (b_cons ((z_set 2 nd (x_add (x_int) (x_mod (x_ix (x_var 0) (x_int)) (x_int)))).to [.im false, .im false, .im true, .no, .no, .no, .no, .no, .no, .no])
    (b_cons (z_if (Δn := [.im false, .im false, .im true, .no, .no, .no, .no, .no, .no, .no]) (c_cmp (or_eq hr) (x_mod (x_div (x_ix (x_var 0) (x_int)) (x_int)) (x_int)) (x_int))
    ((b_one ((z_set 2 nd (x_add (x_int) (x_mod (x_div (x_ix (x_var 0) (x_int)) (x_int)) (x_int)))).to [.im false, .im false, .im true, .no, .no, .no, .no, .no, .no, .no])).to [.im false, .im false, .im true, .no, .no, .no, .no, .no, .no, .no])
    ((b_nil).to [.im false, .im false, .im true, .no, .no, .no, .no, .no, .no, .no]))
    (b_cons ((z_set 3 nd (x_mod (x_ix (x_var 0) (x_int)) (x_int))).to [.im false, .im false, .im true, .im true, .no, .no, .no, .no, .no, .no])
    (b_cons (z_if (Δn := [.im false, .im false, .im true, .im true, .no, .no, .no, .no, .no, .no]) (c_cmp (or_eq hr) (x_mod (x_div (x_ix (x_var 0) (x_int)) (x_int)) (x_int)) (x_int))
    ((b_one ((z_set 3 nd (x_add (x_int) (x_mod (x_div (x_ix (x_var 0) (x_int)) (x_int)) (x_int)))).to [.im false, .im false, .im true, .im true, .no, .no, .no, .no, .no, .no])).to [.im false, .im false, .im true, .im true, .no, .no, .no, .no, .no, .no])
    ((b_nil).to [.im false, .im false, .im true, .im true, .no, .no, .no, .no, .no, .no]))
    (b_cons ((z_set 4 nd (x_ix ((x_lst (AD.to true true (a_cons (x_int) (a_cons (x_int) (a_cons (x_pow (x_int) (x_int)) (a_nil)))))).nv) (x_mod (x_ix (x_var 0) (x_int)) (x_int)))).to [.im false, .im false, .im true, .im true, .im true, .no, .no, .no, .no, .no])
    (b_cons ((z_set 5 nd (x_ix ((x_lst (AD.to true true (a_cons (x_int) (a_cons (x_mod (x_div (x_ix (x_var 0) (x_int)) (x_int)) (x_int)) (a_cons (x_mod (x_ix (x_var 0) (x_int)) (x_pow (x_int) (x_int))) (a_nil)))))).nv) (x_mod (x_div (x_ix (x_var 0) (x_int)) (x_int)) (x_int)))).to [.im false, .im false, .im true, .im true, .im true, .im true, .no, .no, .no, .no])
    (b_cons ((z_setO 6 nd (x_lst (a_nil))).to [.im false, .im false, .im true, .im true, .im true, .im true, .own .l true, .no, .no, .no])
    (b_cons (z_for (n := 10) .never (i_rng1 t.n_range (AD.to true true (a_cons (x_min3 t.n_min (AD.to true false (a_cons (x_var 3) (a_cons (x_var 1) (a_cons (x_div (x_sub (x_len t.n_len (AD.to true false (a_cons (x_var 0) (a_nil)))) (x_int)) (x_int)) (a_nil)))))) (a_nil)))) (g_name 7 nd)
    ((b_cons ((z_asg (n := 10) (x_callN G_l_ends (hr.mono (by decide)) t.m_l_ends t.F_l_ends.kp t.b_l_ends pass0 (AD.to true false (a_cons (x_var 2) (a_cons (x_mod (x_ix (x_var 0) (x_int)) (x_int)) (a_cons (x_ix (x_var 0) (x_add (x_int) (x_mul (x_int) (x_var 7)))) (a_cons (x_ix (x_var 0) (x_add (x_int) (x_mul (x_int) (x_var 7)))) (a_nil))))))) (g_tup (m := 2) rfl (g_cons (g_name 8 nd) (g_cons (g_name 9 nd) (g_nil))) (tgCons_len (tgCons_len tgNil_len)))).to [.im false, .im false, .im true, .im true, .im true, .im true, .own .l true, .im true, .im true, .im true])
    (b_cons ((z_app 6 (x_tup (AD.to true true (a_cons (x_var 5) (a_cons (x_min2 t.n_min (AD.to true true (a_cons (x_var 8) (a_cons (x_var 9) (a_nil))))) (a_cons (x_max2 t.n_max (AD.to true true (a_cons (x_var 8) (a_cons (x_var 9) (a_nil))))) (a_nil))))))).to [.im false, .im false, .im true, .im true, .im true, .im true, .own .l true, .im true, .im true, .im true])
    (b_one ((z_set 5 nd (x_add (x_add (x_var 5) (x_int)) (x_mod (x_ix (x_var 0) (x_add (x_int) (x_mul (x_int) (x_var 7)))) (x_var 4)))).to [.im false, .im false, .im true, .im true, .im true, .im true, .own .l true, .im true, .im true, .im true])))).to [.im false, .im false, .im true, .im true, .im true, .im true, .own .l true, .no, .no, .no]))
    (b_one (z_ret (x_tup (AD.to false true (a_cons (x_var 2) (a_cons ((x_own 6).ov) (a_nil))))))))))))))) rfl⟩
/-! ### _law_depth -/
abbrev g_l_depth : Gs := FamL.g_l_depth
abbrev f_l_depth : List Dt → O Dt := FamL.f_l_depth
theorem ok_l_depth (t : Tx K mg) : FnOk P w K mg base CX0 1 t.a_l_depth t.d_l_depth ["number"] (spG K mg 1 f_l_depth) := by
  have nd : (["number"] : List Str).Nodup := by decide +kernel
  exact fn_okN t.F_l_depth (Δn := [.im false]) sc_l_depth rfl rfl (by decide) fun cdv A outer s H E hr => ⟨_, BD.frm [.im false] (Δb := kd0 1 1 false) (Δc := kd0 1 1 false)
    (b_one (z_ret (x_ix ((x_lst (AD.to true true (a_cons (x_add (x_int) (x_mod (x_var 0) (x_int))) (a_cons (x_add (x_int) (x_mod (x_div (x_var 0) (x_int)) (x_int))) (a_nil))))).nv) (x_int1 t.n_int (AD.to true true (a_cons (x_cmp (or_eq hr) (x_mod (x_var 0) (x_int)) (x_int)) (a_nil))))))) rfl⟩
/-! ### _law_free_way -/
def g_l_free_way_L1 : Gs := gIfS (gAnd (gTest (gOp hIn (gOp hIx (gVar 4) (gVar 5)) (gTup (gCons (gVar 7) (gCons (gVar 8) (gNil)))))) (gTest (gDIn true 3 (gOp hSub (gOp hAdd (gVar 7) (gVar 8)) (gOp hIx (gVar 4) (gVar 5)))))) (gSeqS (gSet 9 (gOp hSub (gOp hAdd (gVar 7) (gVar 8)) (gOp hIx (gVar 4) (gVar 5)))) (gSeqS (gDPut 3 (gOp hCat (gDGet 3 (gOp hIx (gVar 4) (gVar 5))) (gLst (gCons (gVar 6) (gNil)))) (gVar 9)) (gApp 4 (gVar 9)))) (gNext)
def g_l_free_way_L2 : Gs := gIfS (gTest (gOp hLt (gVar 5) (gCB hLen (gCons (gVar 4) (gNil))))) (gFor (gSeq (gVar 0)) (tgT (tgCons (tgN 6) (tgCons (tgN 7) (tgCons (tgN 8) (tgNil))))) g_l_free_way_L1) (gNext)
def g_l_free_way : Gs := gSeqS (gSet 3 (gDNew1 (gVar 1) (gLst (gNil)))) (gSeqS (gSet 4 (gLst (gCons (gVar 1) (gNil)))) (gSeqS (gFor (gRng1 (gCons (gC (.int (10))) (gNil))) (tgN 5) g_l_free_way_L2) (gRet (gDGetN 3 (gVar 2)))))
def f_l_free_way : List Dt → O Dt := fnN 10 g_l_free_way
theorem ok_l_free_way (t : Tx K mg) : FnOk P w K mg base CX0 1 t.a_l_free_way t.d_l_free_way ["ties", "a", "b"] (spA K mg 3 f_l_free_way) := by
  have nd : (["ties", "a", "b", "ways", "line", "turn", "moment", "one", "other", "to"] : List Str).Nodup := by decide +kernel
  exact fn_okA t.F_l_free_way (Δn := [.im true, .im true, .im true, .no, .no, .no, .no, .no, .no, .no]) sc_l_free_way rfl rfl (by decide) fun cdv A outer s H E hr => ⟨_, BD.frm [.im true, .im true, .im true, .no, .no, .no, .no, .no, .no, .no] (Δb := kd0 3 10 true) (Δc := kd0 3 10 true)
    (b_cons ((z_setO 3 nd (x_dnew1 (x_var 1) ((x_lst (a_nil)).nv))).to [.im true, .im true, .im true, .own .dk true, .no, .no, .no, .no, .no, .no])
    (b_cons ((z_setO 4 nd (x_lst (AD.to true true (a_cons (x_var 1) (a_nil))))).to [.im true, .im true, .im true, .own .dk true, .own .l true, .no, .no, .no, .no, .no])
    (b_cons (z_for (n := 10) .never (i_rng1 t.n_range (AD.to true true (a_cons (x_int) (a_nil)))) (g_name 5 nd)
    ((b_one (z_if (Δn := [.im true, .im true, .im true, .own .dk true, .own .l true, .im true, .no, .no, .no, .no]) (c_cmp or_lt (x_var 5) (x_len t.n_len (AD.to false true (a_cons ((x_own 4).ov) (a_nil)))))
    ((b_one (z_for (n := 10) .never (i_seq (x_var 0)) (g_tup (m := 3) rfl (g_cons (g_name 6 nd) (g_cons (g_name 7 nd) (g_cons (g_name 8 nd) (g_nil)))) (tgCons_len (tgCons_len (tgCons_len tgNil_len))))
    ((b_one (z_if (Δn := [.im true, .im true, .im true, .own .dk true, .own .l true, .im true, .im true, .im true, .im true, .no]) (c_w (w_and (c_cmp (or_in hr) (x_ixO (x_own 4) (x_var 5)) (x_tup (AD.to true true (a_cons (x_var 7) (a_cons (x_var 8) (a_nil)))))) (w_and1 (c_dnin 3 hr (x_sub (x_add (x_var 7) (x_var 8)) (x_ixO (x_own 4) (x_var 5)))))))
    ((b_cons ((z_set 9 nd (x_sub (x_add (x_var 7) (x_var 8)) (x_ixO (x_own 4) (x_var 5)))).to [.im true, .im true, .im true, .own .dk true, .own .l true, .im true, .im true, .im true, .im true, .im true])
    (b_cons ((z_dput 3 hr ((PD.wkN true (x_cat (x_dget 3 hr (x_ixO (x_own 4) (x_var 5))) ((x_lst (AD.to true true (a_cons (x_var 6) (a_nil)))).nv))).nv) (x_var 9)).to [.im true, .im true, .im true, .own .dk true, .own .l true, .im true, .im true, .im true, .im true, .im true])
    (b_one ((z_app 4 (x_var 9)).to [.im true, .im true, .im true, .own .dk true, .own .l true, .im true, .im true, .im true, .im true, .im true])))).to [.im true, .im true, .im true, .own .dk true, .own .l true, .im true, .im true, .im true, .im true, .no])
    ((b_nil).to [.im true, .im true, .im true, .own .dk true, .own .l true, .im true, .im true, .im true, .im true, .no]))).to [.im true, .im true, .im true, .own .dk true, .own .l true, .im true, .no, .no, .no, .no]))).to [.im true, .im true, .im true, .own .dk true, .own .l true, .im true, .no, .no, .no, .no])
    ((b_nil).to [.im true, .im true, .im true, .own .dk true, .own .l true, .im true, .no, .no, .no, .no]))).to [.im true, .im true, .im true, .own .dk true, .own .l true, .no, .no, .no, .no, .no]))
    (b_one (z_ret (x_dgetN 3 hr (x_var 2))))))) rfl⟩
/-! ### _law_ways -/
def g_l_ways_L1 : Gs := gSeqS (gSet 6 (gCallN 3 f_l_free_way (gCons (gVar 4) (gCons (gVar 1) (gCons (gVar 2) (gNil)))))) (gIfS (gTest (gOp hIsNot (gVar 6) (gC .none))) (gSeqS (gApp 3 (gVar 6)) (gSet 4 (gLc (gSeq (gVar 4)) (tgN 7) (gTest (gOp hNotIn (gOp hIx (gVar 7) (gC (.int (0)))) (gVar 6))) (gVar 7)))) (gNext))
def g_l_ways : Gs := gSeqS (gSet 3 (gLst (gNil))) (gSeqS (gSet 4 (gCB (one hListOf) (gCons (gVar 0) gNil))) (gSeqS (gFor (gRng1 (gCons (gOp hAdd (gCB hLen (gCons (gVar 0) (gNil))) (gC (.int (1)))) (gNil))) (tgN 5) g_l_ways_L1) (gRet (gVar 3))))
def f_l_ways : List Dt → O Dt := fnN 8 g_l_ways
theorem ok_l_ways (t : Tx K mg) : FnOk P w K mg base CX0 2 t.a_l_ways t.d_l_ways ["ties", "a", "b"] (spA K mg 3 f_l_ways) := by
  have G_l_free_way := ok_l_free_way (P := P) (w := w) (base := base) t
  have nd : (["ties", "a", "b", "found", "left", "turn", "way", "tie"] : List Str).Nodup := by decide +kernel
  exact fn_okA t.F_l_ways (Δn := [.im true, .im true, .im true, .no, .no, .no, .no, .no]) sc_l_ways rfl rfl (by decide) fun cdv A outer s H E hr => ⟨_, BD.frm [.im true, .im true, .im true, .no, .no, .no, .no, .no] (Δb := kd0 3 8 true) (Δc := kd0 3 8 true)
    (b_cons ((z_setO 3 nd (x_lst (a_nil))).to [.im true, .im true, .im true, .own .l true, .no, .no, .no, .no])
    (b_cons ((z_set 4 nd ((x_list t.n_list (a_cons (x_var 0) a_nil)).nv)).to [.im true, .im true, .im true, .own .l true, .im true, .no, .no, .no])
    (b_cons (z_for (n := 8) .never (i_rng1 t.n_range (AD.to true true (a_cons (x_add (x_len t.n_len (AD.to true true (a_cons (x_var 0) (a_nil)))) (x_int)) (a_nil)))) (g_name 5 nd)
    ((b_cons ((z_set 6 nd (x_callA G_l_free_way (hr.mono (by decide)) t.m_l_free_way t.F_l_free_way.kp t.b_l_free_way pass0 (AD.to true true (a_cons (x_var 4) (a_cons (x_var 1) (a_cons (x_var 2) (a_nil))))))).to [.im true, .im true, .im true, .own .l true, .im true, .im true, .im true, .no])
    (b_one (z_if (Δn := [.im true, .im true, .im true, .own .l true, .im true, .im true, .im true, .no]) (c_cmp or_notN (x_var 6) (x_non))
    ((b_cons ((z_app 3 (x_var 6)).to [.im true, .im true, .im true, .own .l true, .im true, .im true, .im true, .no])
    (b_one ((z_setLc 4 (n := 8) [("tie", 7)] nd (i_seq (x_var 4)) (blk_fx (N := ["ties", "a", "b", "found", "left", "turn", "way", "tie"]) (sc := defScope st_l_ways) (by decide +kernel)) (fun _ _ _ _ _ => g_name 7 nd) (fun _ _ _ _ _ => t_one (c_cmp (or_notIn hr) (x_ix (x_var 7) (x_int)) (x_var 6))) (fun _ _ _ _ _ => x_var 7) (sw_true rfl rfl rfl (by decide +kernel))).to [.im true, .im true, .im true, .own .l true, .im true, .im true, .im true, .no]))).to [.im true, .im true, .im true, .own .l true, .im true, .im true, .im true, .no])
    ((b_nil).to [.im true, .im true, .im true, .own .l true, .im true, .im true, .im true, .no])))).to [.im true, .im true, .im true, .own .l true, .im true, .no, .no, .no]))
    (b_one (z_ret ((x_own 3).ov)))))) rfl⟩
/-! ### _law_sides -/
def g_l_sides_L1 : Gs := gSeqS (gSet 6 (gOp hShr (gVar 3) (gOp hMul (gC (.int (10))) (gVar 5)))) (gSeqS (gSet 7 (gLc (gRng1 (gCons (gVar 0) (gNil))) (tgN 8) (gOr (gTest (gOp hEq (gVar 8) (gVar 1))) (gAnd (gTest (gOp hNe (gVar 8) (gVar 2))) (gTest (gOp hEq (gOp hBand (gOp hShr (gVar 6) (gVar 8)) (gC (.int (1)))) (gC (.int (1))))))) (gVar 8))) (gApp 4 (gCB (one hTupOf) (gCons (gVar 7) (gNil)))))
def g_l_sides : Gs := gSeqS (gSet 4 (gLst (gNil))) (gSeqS (gFor (gRng1 (gCons (gC (.int (6))) (gNil))) (tgN 5) g_l_sides_L1) (gRet (gVar 4)))
def f_l_sides : List Dt → O Dt := fnL 9 g_l_sides
theorem ok_l_sides (t : Tx K mg) : FnOk P w K mg base CX0 1 t.a_l_sides t.d_l_sides ["n", "a", "b", "number"] (spL K mg 4 f_l_sides) := by
  have nd : (["n", "a", "b", "number", "found", "k", "bits", "side", "place"] : List Str).Nodup := by decide +kernel
  exact fn_okL t.F_l_sides (Δn := [.im false, .im false, .im false, .im false, .no, .no, .no, .no, .no]) sc_l_sides rfl rfl (by decide) fun cdv A outer s H E hr => ⟨_, BD.frm [.im false, .im false, .im false, .im false, .no, .no, .no, .no, .no] (Δb := kd0 4 9 false) (Δc := kd0 4 9 false)
    (b_cons ((z_setO 4 nd (x_lst (a_nil))).to [.im false, .im false, .im false, .im false, .own .l true, .no, .no, .no, .no])
    (b_cons (z_for (n := 9) .never (i_rng1 t.n_range (AD.to true true (a_cons (x_int) (a_nil)))) (g_name 5 nd)
    ((b_cons ((z_set 6 nd (x_shr (x_var 3) (x_mul (x_int) (x_var 5)))).to [.im false, .im false, .im false, .im false, .own .l true, .im true, .im true, .no, .no])
    (b_cons ((z_setLc 7 (n := 9) [("place", 8)] nd (i_rng1 t.n_range (AD.to true false (a_cons (x_var 0) (a_nil)))) (blk_fx (N := ["n", "a", "b", "number", "found", "k", "bits", "side", "place"]) (sc := defScope st_l_sides) (by decide +kernel)) (fun _ _ _ _ _ => g_name 8 nd) (fun _ _ _ _ _ => t_one (c_w (w_or (c_cmp (or_eq hr) (x_var 8) (x_var 1)) (w_or1 (c_w (w_and (c_cmp (or_ne hr) (x_var 8) (x_var 2)) (w_and1 (c_cmp (or_eq hr) (x_band (x_shr (x_var 6) (x_var 8)) (x_int)) (x_int))))))))) (fun _ _ _ _ _ => x_var 8) (sw_true rfl rfl rfl (by decide +kernel))).to [.im false, .im false, .im false, .im false, .own .l true, .im true, .im true, .im true, .no])
    (b_one ((z_app 4 (x_tuple t.n_tuple (AD.to true true (a_cons (x_var 7) (a_nil))))).to [.im false, .im false, .im false, .im false, .own .l true, .im true, .im true, .im true, .no])))).to [.im false, .im false, .im false, .im false, .own .l true, .no, .no, .no, .no]))
    (b_one (z_retO 4)))) rfl⟩
/-! ### _law_strands_right -/
def g_l_strands_right_L1 : Gs := gSeqS (gSet 10 (gLc (gSeq (gVar 1)) (tgN 11) (gAnd (gTest (gOp hGt (gOp hIx (gVar 11) (gC (.int (0)))) (gVar 5))) (gTest (gOp hNe (gOp hIn (gOp hIx (gVar 11) (gC (.int (1)))) (gVar 9)) (gOp hIn (gOp hIx (gVar 11) (gC (.int (2)))) (gVar 9))))) (gVar 11))) (gIfS (gTest (gOp hLt (gCB hLen (gCons (gVar 10) (gNil))) (gCB hLen (gCons (gVar 8) (gNil))))) (gRet (gC (.bool false))) (gNext))
def g_l_strands_right : Gs := gSeqS (gAsg (gOp hIx (gVar 1) (gVar 3)) (tgT (tgCons (tgN 5) (tgCons (tgN 6) (tgCons (tgN 7) (tgNil)))))) (gSeqS (gSet 8 (gCallN 4 f_strands (gCons (gVar 0) (gCons (gVar 1) (gCons (gVar 2) (gCons (gVar 3) (gNil))))))) (gSeqS (gIfS (gTest (gOp hNe (gCallN 3 f_judged (gCons (gVar 0) (gCons (gVar 1) (gCons (gTup (gCons (gC (.str "out")) (gCons (gVar 5) (gCons (gVar 8) (gNil))))) (gNil))))) (gTup (gCons (gC (.str "out")) (gCons (gCB hLen (gCons (gVar 8) (gNil))) (gNil)))))) (gRet (gC (.bool false))) (gNext)) (gSeqS (gFor (gSeq (gCallN 4 f_l_sides (gCons (gVar 0) (gCons (gVar 6) (gCons (gVar 7) (gCons (gVar 4) (gNil))))))) (tgN 9) g_l_strands_right_L1) (gRet (gC (.bool true))))))
def f_l_strands_right : List Dt → O Dt := fnN 12 g_l_strands_right
theorem ok_l_strands_right (t : Tx K mg) : FnOk P w K mg base CX0 6 t.a_l_strands_right t.d_l_strands_right ["n", "record", "k", "at", "number"] (spG K mg 5 f_l_strands_right) := by
  have G_strands := ok_strands (P := P) (w := w) (base := base) t
  have G_judged := ok_judged (P := P) (w := w) (base := base) t
  have G_l_sides := ok_l_sides (P := P) (w := w) (base := base) t
  have nd : (["n", "record", "k", "at", "number", "moment", "one", "other", "ways", "side", "younger", "tie"] : List Str).Nodup := by decide +kernel
  exact fn_okN t.F_l_strands_right (Δn := [.im false, .im false, .im false, .im false, .im false, .no, .no, .no, .no, .no, .no, .no]) sc_l_strands_right rfl rfl (by decide) fun cdv A outer s H E hr => ⟨_, BD.frm [.im false, .im false, .im false, .im false, .im false, .no, .no, .no, .no, .no, .no, .no] (Δb := kd0 5 12 false) (Δc := kd0 5 12 false)
    (b_cons ((z_asg (n := 12) (x_ix (x_var 1) (x_var 3)) (g_tup (m := 3) rfl (g_cons (g_name 5 nd) (g_cons (g_name 6 nd) (g_cons (g_name 7 nd) (g_nil)))) (tgCons_len (tgCons_len (tgCons_len tgNil_len))))).to [.im false, .im false, .im false, .im false, .im false, .im false, .im false, .im false, .no, .no, .no, .no])
    (b_cons ((z_set 8 nd (x_callA G_strands (hr.mono (by decide)) t.m_strands t.F_strands.kp t.b_strands pass0 (AD.to true false (a_cons (x_var 0) (a_cons (x_var 1) (a_cons (x_var 2) (a_cons (x_var 3) (a_nil)))))))).to [.im false, .im false, .im false, .im false, .im false, .im false, .im false, .im false, .im false, .no, .no, .no])
    (b_cons (z_if (Δn := [.im false, .im false, .im false, .im false, .im false, .im false, .im false, .im false, .im false, .no, .no, .no]) (c_cmp (or_ne hr) (x_callN G_judged (hr.mono (by decide)) t.m_judged t.F_judged.kp t.b_judged pass0 (AD.to true false (a_cons (x_var 0) (a_cons (x_var 1) (a_cons (x_tup (AD.to true false (a_cons (x_str) (a_cons (x_var 5) (a_cons (x_var 8) (a_nil)))))) (a_nil)))))) (x_tup (AD.to true true (a_cons (x_str) (a_cons (x_len t.n_len (AD.to true false (a_cons (x_var 8) (a_nil)))) (a_nil))))))
    (b_one (z_ret (x_bl)))
    ((b_nil).to [.im false, .im false, .im false, .im false, .im false, .im false, .im false, .im false, .im false, .no, .no, .no]))
    (b_cons (z_for (n := 12) .never (i_seq ((x_callL G_l_sides (hr.mono (by decide)) t.m_l_sides t.F_l_sides.kp t.b_l_sides pass0 (AD.to true false (a_cons (x_var 0) (a_cons (x_var 6) (a_cons (x_var 7) (a_cons (x_var 4) (a_nil))))))).nv)) (g_name 9 nd)
    ((b_cons ((z_setLc 10 (n := 12) [("tie", 11)] nd (i_seq (x_var 1)) (blk_fx (N := ["n", "record", "k", "at", "number", "moment", "one", "other", "ways", "side", "younger", "tie"]) (sc := defScope st_l_strands_right) (by decide +kernel)) (fun _ _ _ _ _ => g_name 11 nd) (fun _ _ _ _ _ => t_one (c_w (w_and (c_cmp or_gt (x_ix (x_var 11) (x_int)) (x_var 5)) (w_and1 (c_cmp (or_ne hr) (x_cmp (or_in hr) (x_ix (x_var 11) (x_int)) (x_var 9)) (x_cmp (or_in hr) (x_ix (x_var 11) (x_int)) (x_var 9))))))) (fun _ _ _ _ _ => x_var 11) (sw_true rfl rfl rfl (by decide +kernel))).to [.im false, .im false, .im false, .im false, .im false, .im false, .im false, .im false, .im false, .im true, .im false, .no])
    (b_one (z_if (Δn := [.im false, .im false, .im false, .im false, .im false, .im false, .im false, .im false, .im false, .im true, .im false, .no]) (c_cmp or_lt (x_len t.n_len (AD.to true false (a_cons (x_var 10) (a_nil)))) (x_len t.n_len (AD.to true false (a_cons (x_var 8) (a_nil)))))
    (b_one (z_ret (x_bl)))
    ((b_nil).to [.im false, .im false, .im false, .im false, .im false, .im false, .im false, .im false, .im false, .im true, .im false, .no])))).to [.im false, .im false, .im false, .im false, .im false, .im false, .im false, .im false, .im false, .no, .no, .no]))
    (b_one (z_ret (x_bl))))))) rfl⟩
/-! ### law -/
def g_law_L1 : Gs := gSeqS (gAsg (gCallN 3 f_judged (gCons (gVar 3) (gCons (gVar 4) (gCons (gTup (gCons (gC (.str "side")) (gCons (gVar 5) (gCons (gVar 6) (gCons (gVar 7) (gCons (gVar 10) (gNil))))))) (gNil))))) (tgT (tgCons (tgN 11) (tgCons (tgN 12) (tgNil))))) (gSeqS (gSet 13 (gLc (gSeq (gVar 4)) (tgN 8) (gAnd (gTest (gOp hGe (gOp hIx (gVar 8) (gC (.int (0)))) (gVar 7))) (gTest (gOp hNe (gOp hIn (gOp hIx (gVar 8) (gC (.int (1)))) (gVar 10)) (gOp hIn (gOp hIx (gVar 8) (gC (.int (2)))) (gVar 10))))) (gVar 8))) (gIfS (gOr (gTest (gOp hNe (gVar 11) (gC (.str "at most")))) (gOr (gTest (gOp hNe (gVar 12) (gCB hLen (gCons (gVar 13) (gNil))))) (gTest (gOp hLt (gVar 12) (gCB hLen (gCons (gVar 9) (gNil))))))) (gRet (gC (.bool false))) (gNext)))
def g_law_L2 : Gs := gSeqS (gSet 2 (gCallN 3 f_l_numbers (gCons (gVar 1) (gCons (gC (.int (100))) (gCons (gOp hPow (gC (.int (10))) (gC (.int (30)))) (gNil)))))) (gSeqS (gAsg (gCallN 2 f_l_record (gCons (gSl hSl (gVar 2) (gPart (gC (.int (6)))) (gNoPart)) (gCons (gC (.int (30))) (gNil)))) (tgT (tgCons (tgN 3) (tgCons (tgN 4) (tgNil))))) (gSeqS (gSet 5 (gOp hMod (gOp hIx (gVar 2) (gC (.int (0)))) (gVar 3))) (gSeqS (gSet 6 (gOp hMod (gOp hIx (gVar 2) (gC (.int (1)))) (gVar 3))) (gSeqS (gSet 7 (gOp hIx (gOp hCat (gLc (gSeq (gVar 4)) (tgN 8) (gYes) (gOp hIx (gVar 8) (gC (.int (0))))) (gLst (gCons (gC (.int (0))) (gNil)))) (gOp hMod (gOp hIx (gVar 2) (gC (.int (2)))) (gOp hAdd (gCB hLen (gCons (gVar 4) (gNil))) (gC (.int (1))))))) (gSeqS (gIfS (gTest (gOp hNe (gVar 5) (gVar 6))) (gSeqS (gSet 9 (gCallN 3 f_l_ways (gCons (gLc (gSeq (gVar 4)) (tgN 8) (gTest (gOp hGe (gOp hIx (gVar 8) (gC (.int (0)))) (gVar 7))) (gVar 8)) (gCons (gVar 5) (gCons (gVar 6) (gNil)))))) (gSeqS (gIfS (gTest (gOp hNe (gCallN 3 f_judged (gCons (gVar 3) (gCons (gVar 4) (gCons (gTup (gCons (gC (.str "ways")) (gCons (gVar 5) (gCons (gVar 6) (gCons (gVar 7) (gCons (gVar 9) (gNil))))))) (gNil))))) (gTup (gCons (gC (.str "at least")) (gCons (gCB hLen (gCons (gVar 9) (gNil))) (gNil)))))) (gRet (gC (.bool false))) (gNext)) (gFor (gSeq (gCallN 4 f_l_sides (gCons (gVar 3) (gCons (gVar 5) (gCons (gVar 6) (gCons (gOp hIx (gVar 2) (gC (.int (3)))) (gNil))))))) (tgN 10) g_law_L1))) (gNext)) (gIfS (gTest (gOp hNe (gVar 4) (gLst (gNil)))) (gSeqS (gSet 14 (gOp hMod (gOp hIx (gVar 2) (gC (.int (4)))) (gCB hLen (gCons (gVar 4) (gNil))))) (gSeqS (gSet 15 (gCallN 1 f_l_depth (gCons (gOp hIx (gVar 2) (gC (.int (5)))) (gNil)))) (gIfS (gAnd (gTest (gOp hNe (gOp hIx (gOp hIx (gVar 4) (gVar 14)) (gC (.int (1)))) (gOp hIx (gOp hIx (gVar 4) (gVar 14)) (gC (.int (2)))))) (gNot (gTest (gCallN 5 f_l_strands_right (gCons (gVar 3) (gCons (gVar 4) (gCons (gVar 15) (gCons (gVar 14) (gCons (gOp hIx (gVar 2) (gC (.int (3)))) (gNil)))))))))) (gRet (gC (.bool false))) (gNext)))) (gNext)))))))
def g_law : Gs := gSeqS (gFor (gSeq (gOp hCat (gSl hSl (gVar 0) (gNoPart) (gPart (gC (.int (5))))) (gLst (gCons (gCB hLen (gCons (gVar 0) (gNil))) (gNil))))) (tgN 1) g_law_L2) (gRet (gC (.bool true)))
def f_law : List Dt → O Dt := fnN 16 g_law
theorem ok_law (t : Tx K mg) : FnOk P w K mg base CX0 7 t.a_law t.d_law ["script"] (spG K mg 1 f_law) := by
  have G_l_numbers := ok_l_numbers (P := P) (w := w) (base := base) t
  have G_l_record := ok_l_record (P := P) (w := w) (base := base) t
  have G_l_ways := ok_l_ways (P := P) (w := w) (base := base) t
  have G_judged := ok_judged (P := P) (w := w) (base := base) t
  have G_l_sides := ok_l_sides (P := P) (w := w) (base := base) t
  have G_l_depth := ok_l_depth (P := P) (w := w) (base := base) t
  have G_l_strands_right := ok_l_strands_right (P := P) (w := w) (base := base) t
  have nd : (["script", "cell", "numbers", "n", "record", "a", "b", "t", "tie", "ways", "side", "word", "most", "over", "at", "k"] : List Str).Nodup := by decide +kernel
  exact fn_okN t.F_law (Δn := [.im false, .no, .no, .no, .no, .no, .no, .no, .no, .no, .no, .no, .no, .no, .no, .no]) sc_law rfl rfl (by decide) fun cdv A outer s H E hr => ⟨_, BD.frm [.im false, .no, .no, .no, .no, .no, .no, .no, .no, .no, .no, .no, .no, .no, .no, .no] (Δb := kd0 1 16 false) (Δc := kd0 1 16 false)
    (b_cons (z_for (n := 16) .never (i_seq ((PD.wkN false (x_cat ((x_sl (x_var 0) (o_none) (o_some (x_int))).nv) ((x_lst (AD.to true true (a_cons (x_len t.n_len (AD.to true false (a_cons (x_var 0) (a_nil)))) (a_nil)))).nv))).nv)) (g_name 1 nd)
    ((b_cons ((z_set 2 nd ((x_callL G_l_numbers (hr.mono (by decide)) t.m_l_numbers t.F_l_numbers.kp t.b_l_numbers pass0 (AD.to true false (a_cons (x_var 1) (a_cons (x_int) (a_cons (x_pow (x_int) (x_int)) (a_nil)))))).nv)).to [.im false, .im false, .im true, .no, .no, .no, .no, .no, .no, .no, .no, .no, .no, .no, .no, .no])
    (b_cons ((z_asg (n := 16) (x_callN G_l_record (hr.mono (by decide)) t.m_l_record t.F_l_record.kp t.b_l_record pass0 (AD.to true true (a_cons ((x_sl (x_var 2) (o_some (x_int)) (o_none)).nv) (a_cons (x_int) (a_nil))))) (g_tup (m := 2) rfl (g_cons (g_name 3 nd) (g_cons (g_name 4 nd) (g_nil))) (tgCons_len (tgCons_len tgNil_len)))).to [.im false, .im false, .im true, .im true, .im true, .no, .no, .no, .no, .no, .no, .no, .no, .no, .no, .no])
    (b_cons ((z_set 5 nd (x_mod (x_ix (x_var 2) (x_int)) (x_var 3))).to [.im false, .im false, .im true, .im true, .im true, .im true, .no, .no, .no, .no, .no, .no, .no, .no, .no, .no])
    (b_cons ((z_set 6 nd (x_mod (x_ix (x_var 2) (x_int)) (x_var 3))).to [.im false, .im false, .im true, .im true, .im true, .im true, .im true, .no, .no, .no, .no, .no, .no, .no, .no, .no])
    (b_cons ((z_set 7 nd (x_ix ((PD.wkN true (x_cat ((x_lc (n := 16) [("tie", 8)] nd (i_seq (x_var 4)) (blk_fx (N := ["script", "cell", "numbers", "n", "record", "a", "b", "t", "tie", "ways", "side", "word", "most", "over", "at", "k"]) (sc := defScope st_law) (by decide +kernel)) (fun _ _ _ _ _ => g_name 8 nd) (fun _ _ _ _ _ => t_nil) (fun _ _ _ _ _ => x_ix (x_var 8) (x_int))).nv) ((x_lst (AD.to true true (a_cons (x_int) (a_nil)))).nv))).nv) (x_mod (x_ix (x_var 2) (x_int)) (x_add (x_len t.n_len (AD.to true true (a_cons (x_var 4) (a_nil)))) (x_int))))).to [.im false, .im false, .im true, .im true, .im true, .im true, .im true, .im true, .no, .no, .no, .no, .no, .no, .no, .no])
    (b_cons (z_if (Δn := [.im false, .im false, .im true, .im true, .im true, .im true, .im true, .im true, .no, .no, .no, .no, .no, .no, .no, .no]) (c_cmp (or_ne hr) (x_var 5) (x_var 6))
    ((b_cons ((z_set 9 nd (x_callA G_l_ways (hr.mono (by decide)) t.m_l_ways t.F_l_ways.kp t.b_l_ways pass0 (AD.to true true (a_cons ((x_lc (n := 16) [("tie", 8)] nd (i_seq (x_var 4)) (blk_fx (N := ["script", "cell", "numbers", "n", "record", "a", "b", "t", "tie", "ways", "side", "word", "most", "over", "at", "k"]) (sc := defScope st_law) (by decide +kernel)) (fun _ _ _ _ _ => g_name 8 nd) (fun _ _ _ _ _ => t_one (c_cmp or_ge (x_ix (x_var 8) (x_int)) (x_var 7))) (fun _ _ _ _ _ => x_var 8)).nv) (a_cons (x_var 5) (a_cons (x_var 6) (a_nil))))))).to [.im false, .im false, .im true, .im true, .im true, .im true, .im true, .im true, .no, .im true, .no, .no, .no, .no, .no, .no])
    (b_cons (z_if (Δn := [.im false, .im false, .im true, .im true, .im true, .im true, .im true, .im true, .no, .im true, .no, .no, .no, .no, .no, .no]) (c_cmp (or_ne hr) (x_callN G_judged (hr.mono (by decide)) t.m_judged t.F_judged.kp t.b_judged pass0 (AD.to true true (a_cons (x_var 3) (a_cons (x_var 4) (a_cons (x_tup (AD.to true true (a_cons (x_str) (a_cons (x_var 5) (a_cons (x_var 6) (a_cons (x_var 7) (a_cons (x_var 9) (a_nil)))))))) (a_nil)))))) (x_tup (AD.to true true (a_cons (x_str) (a_cons (x_len t.n_len (AD.to true true (a_cons (x_var 9) (a_nil)))) (a_nil))))))
    (b_one (z_ret (x_bl)))
    ((b_nil).to [.im false, .im false, .im true, .im true, .im true, .im true, .im true, .im true, .no, .im true, .no, .no, .no, .no, .no, .no]))
    (b_one (z_for (n := 16) .never (i_seq ((x_callL G_l_sides (hr.mono (by decide)) t.m_l_sides t.F_l_sides.kp t.b_l_sides pass0 (AD.to true true (a_cons (x_var 3) (a_cons (x_var 5) (a_cons (x_var 6) (a_cons (x_ix (x_var 2) (x_int)) (a_nil))))))).nv)) (g_name 10 nd)
    ((b_cons ((z_asg (n := 16) (x_callN G_judged (hr.mono (by decide)) t.m_judged t.F_judged.kp t.b_judged pass0 (AD.to true true (a_cons (x_var 3) (a_cons (x_var 4) (a_cons (x_tup (AD.to true true (a_cons (x_str) (a_cons (x_var 5) (a_cons (x_var 6) (a_cons (x_var 7) (a_cons (x_var 10) (a_nil)))))))) (a_nil)))))) (g_tup (m := 2) rfl (g_cons (g_name 11 nd) (g_cons (g_name 12 nd) (g_nil))) (tgCons_len (tgCons_len tgNil_len)))).to [.im false, .im false, .im true, .im true, .im true, .im true, .im true, .im true, .no, .im true, .im true, .im true, .im true, .no, .no, .no])
    (b_cons ((z_setLc 13 (n := 16) [("tie", 8)] nd (i_seq (x_var 4)) (blk_fx (N := ["script", "cell", "numbers", "n", "record", "a", "b", "t", "tie", "ways", "side", "word", "most", "over", "at", "k"]) (sc := defScope st_law) (by decide +kernel)) (fun _ _ _ _ _ => g_name 8 nd) (fun _ _ _ _ _ => t_one (c_w (w_and (c_cmp or_ge (x_ix (x_var 8) (x_int)) (x_var 7)) (w_and1 (c_cmp (or_ne hr) (x_cmp (or_in hr) (x_ix (x_var 8) (x_int)) (x_var 10)) (x_cmp (or_in hr) (x_ix (x_var 8) (x_int)) (x_var 10))))))) (fun _ _ _ _ _ => x_var 8) (sw_true rfl rfl rfl (by decide +kernel))).to [.im false, .im false, .im true, .im true, .im true, .im true, .im true, .im true, .no, .im true, .im true, .im true, .im true, .im true, .no, .no])
    (b_one (z_if (Δn := [.im false, .im false, .im true, .im true, .im true, .im true, .im true, .im true, .no, .im true, .im true, .im true, .im true, .im true, .no, .no]) (c_w (w_or (c_cmp (or_ne hr) (x_var 11) (x_str)) (w_or (c_cmp (or_ne hr) (x_var 12) (x_len t.n_len (AD.to true true (a_cons (x_var 13) (a_nil))))) (w_or1 (c_cmp or_lt (x_var 12) (x_len t.n_len (AD.to true true (a_cons (x_var 9) (a_nil)))))))))
    (b_one (z_ret (x_bl)))
    ((b_nil).to [.im false, .im false, .im true, .im true, .im true, .im true, .im true, .im true, .no, .im true, .im true, .im true, .im true, .im true, .no, .no]))))).to [.im false, .im false, .im true, .im true, .im true, .im true, .im true, .im true, .no, .im true, .no, .no, .no, .no, .no, .no]))))).to [.im false, .im false, .im true, .im true, .im true, .im true, .im true, .im true, .no, .no, .no, .no, .no, .no, .no, .no])
    ((b_nil).to [.im false, .im false, .im true, .im true, .im true, .im true, .im true, .im true, .no, .no, .no, .no, .no, .no, .no, .no]))
    (b_one (z_if (Δn := [.im false, .im false, .im true, .im true, .im true, .im true, .im true, .im true, .no, .no, .no, .no, .no, .no, .no, .no]) (c_cmp (or_ne hr) (x_var 4) ((x_lst (a_nil)).nv))
    ((b_cons ((z_set 14 nd (x_mod (x_ix (x_var 2) (x_int)) (x_len t.n_len (AD.to true true (a_cons (x_var 4) (a_nil)))))).to [.im false, .im false, .im true, .im true, .im true, .im true, .im true, .im true, .no, .no, .no, .no, .no, .no, .im true, .no])
    (b_cons ((z_set 15 nd (x_callN G_l_depth (hr.mono (by decide)) t.m_l_depth t.F_l_depth.kp t.b_l_depth pass0 (AD.to true true (a_cons (x_ix (x_var 2) (x_int)) (a_nil))))).to [.im false, .im false, .im true, .im true, .im true, .im true, .im true, .im true, .no, .no, .no, .no, .no, .no, .im true, .im true])
    (b_one (z_if (Δn := [.im false, .im false, .im true, .im true, .im true, .im true, .im true, .im true, .no, .no, .no, .no, .no, .no, .im true, .im true]) (c_w (w_and (c_cmp (or_ne hr) (x_ix (x_ix (x_var 4) (x_var 14)) (x_int)) (x_ix (x_ix (x_var 4) (x_var 14)) (x_int))) (w_and1 (c_not (c_val (x_callN G_l_strands_right (hr.mono (by decide)) t.m_l_strands_right t.F_l_strands_right.kp t.b_l_strands_right pass0 (AD.to true true (a_cons (x_var 3) (a_cons (x_var 4) (a_cons (x_var 15) (a_cons (x_var 14) (a_cons (x_ix (x_var 2) (x_int)) (a_nil)))))))))))))
    (b_one (z_ret (x_bl)))
    ((b_nil).to [.im false, .im false, .im true, .im true, .im true, .im true, .im true, .im true, .no, .no, .no, .no, .no, .no, .im true, .im true]))))).to [.im false, .im false, .im true, .im true, .im true, .im true, .im true, .im true, .no, .no, .no, .no, .no, .no, .no, .no])
    ((b_nil).to [.im false, .im false, .im true, .im true, .im true, .im true, .im true, .im true, .no, .no, .no, .no, .no, .no, .no, .no]))))))))).to [.im false, .no, .no, .no, .no, .no, .no, .no, .no, .no, .no, .no, .no, .no, .no, .no]))
    (b_one (z_ret (x_bl)))) rfl⟩
end
/-! ### what the top has written -/
section
variable {w : World} {K : PySem.W.Frag} {h : Heap} {mg : Str → Option Value}
def mkTx (X : K.In h) (G : h.Ns mainGlobals mg)
    {f0 : Addr} {od0 an0 : Option Addr} {sl0 : Array (Option Value)} {oc0 kV0 dc0 pm0 cd0 ct0 : Value}
        (a0 : PySem.W.nsIn K mainGlobals "is_whole" = some (some (.ref f0))) (l0 : K.lookup f0 = some ⟨oc0, od0, .func (PySem.W.fnOf "is_whole" "is_whole" (defArgs st_is_whole) (defBody st_is_whole) (defScope st_is_whole) .none kV0 dc0 pm0 an0 cd0 ct0), sl0⟩) (c0 : PySem.W.codeIn K cd0 "is_whole" = true) (k0 : PySem.W.keepIn K (.ref f0) = true)
    {f1 : Addr} {od1 an1 : Option Addr} {sl1 : Array (Option Value)} {oc1 kV1 dc1 pm1 cd1 ct1 : Value}
        (a1 : PySem.W.nsIn K mainGlobals "is_place" = some (some (.ref f1))) (l1 : K.lookup f1 = some ⟨oc1, od1, .func (PySem.W.fnOf "is_place" "is_place" (defArgs st_is_place) (defBody st_is_place) (defScope st_is_place) .none kV1 dc1 pm1 an1 cd1 ct1), sl1⟩) (c1 : PySem.W.codeIn K cd1 "is_place" = true) (k1 : PySem.W.keepIn K (.ref f1) = true)
    {f2 : Addr} {od2 an2 : Option Addr} {sl2 : Array (Option Value)} {oc2 kV2 dc2 pm2 cd2 ct2 : Value}
        (a2 : PySem.W.nsIn K mainGlobals "since" = some (some (.ref f2))) (l2 : K.lookup f2 = some ⟨oc2, od2, .func (PySem.W.fnOf "since" "since" (defArgs st_since) (defBody st_since) (defScope st_since) .none kV2 dc2 pm2 an2 cd2 ct2), sl2⟩) (c2 : PySem.W.codeIn K cd2 "since" = true) (k2 : PySem.W.keepIn K (.ref f2) = true)
    {f3 : Addr} {od3 an3 : Option Addr} {sl3 : Array (Option Value)} {oc3 kV3 dc3 pm3 cd3 ct3 : Value}
        (a3 : PySem.W.nsIn K mainGlobals "rim" = some (some (.ref f3))) (l3 : K.lookup f3 = some ⟨oc3, od3, .func (PySem.W.fnOf "rim" "rim" (defArgs st_rim) (defBody st_rim) (defScope st_rim) .none kV3 dc3 pm3 an3 cd3 ct3), sl3⟩) (c3 : PySem.W.codeIn K cd3 "rim" = true) (k3 : PySem.W.keepIn K (.ref f3) = true)
    {f4 : Addr} {od4 an4 : Option Addr} {sl4 : Array (Option Value)} {oc4 kV4 dc4 pm4 cd4 ct4 : Value}
        (a4 : PySem.W.nsIn K mainGlobals "joined" = some (some (.ref f4))) (l4 : K.lookup f4 = some ⟨oc4, od4, .func (PySem.W.fnOf "joined" "joined" (defArgs st_joined) (defBody st_joined) (defScope st_joined) .none kV4 dc4 pm4 an4 cd4 ct4), sl4⟩) (c4 : PySem.W.codeIn K cd4 "joined" = true) (k4 : PySem.W.keepIn K (.ref f4) = true)
    {f5 : Addr} {od5 an5 : Option Addr} {sl5 : Array (Option Value)} {oc5 kV5 dc5 pm5 cd5 ct5 : Value}
        (a5 : PySem.W.nsIn K mainGlobals "way_right" = some (some (.ref f5))) (l5 : K.lookup f5 = some ⟨oc5, od5, .func (PySem.W.fnOf "way_right" "way_right" (defArgs st_way_right) (defBody st_way_right) (defScope st_way_right) .none kV5 dc5 pm5 an5 cd5 ct5), sl5⟩) (c5 : PySem.W.codeIn K cd5 "way_right" = true) (k5 : PySem.W.keepIn K (.ref f5) = true)
    {f6 : Addr} {od6 an6 : Option Addr} {sl6 : Array (Option Value)} {oc6 kV6 dc6 pm6 cd6 ct6 : Value}
        (a6 : PySem.W.nsIn K mainGlobals "are_apart" = some (some (.ref f6))) (l6 : K.lookup f6 = some ⟨oc6, od6, .func (PySem.W.fnOf "are_apart" "are_apart" (defArgs st_are_apart) (defBody st_are_apart) (defScope st_are_apart) .none kV6 dc6 pm6 an6 cd6 ct6), sl6⟩) (c6 : PySem.W.codeIn K cd6 "are_apart" = true) (k6 : PySem.W.keepIn K (.ref f6) = true)
    {f7 : Addr} {od7 an7 : Option Addr} {sl7 : Array (Option Value)} {oc7 kV7 dc7 pm7 cd7 ct7 : Value}
        (a7 : PySem.W.nsIn K mainGlobals "many_ways" = some (some (.ref f7))) (l7 : K.lookup f7 = some ⟨oc7, od7, .func (PySem.W.fnOf "many_ways" "many_ways" (defArgs st_many_ways) (defBody st_many_ways) (defScope st_many_ways) .none kV7 dc7 pm7 an7 cd7 ct7), sl7⟩) (c7 : PySem.W.codeIn K cd7 "many_ways" = true) (k7 : PySem.W.keepIn K (.ref f7) = true)
    {f8 : Addr} {od8 an8 : Option Addr} {sl8 : Array (Option Value)} {oc8 kV8 dc8 pm8 cd8 ct8 : Value}
        (a8 : PySem.W.nsIn K mainGlobals "is_side" = some (some (.ref f8))) (l8 : K.lookup f8 = some ⟨oc8, od8, .func (PySem.W.fnOf "is_side" "is_side" (defArgs st_is_side) (defBody st_is_side) (defScope st_is_side) .none kV8 dc8 pm8 an8 cd8 ct8), sl8⟩) (c8 : PySem.W.codeIn K cd8 "is_side" = true) (k8 : PySem.W.keepIn K (.ref f8) = true)
    {f9 : Addr} {od9 an9 : Option Addr} {sl9 : Array (Option Value)} {oc9 kV9 dc9 pm9 cd9 ct9 : Value}
        (a9 : PySem.W.nsIn K mainGlobals "judged_pair" = some (some (.ref f9))) (l9 : K.lookup f9 = some ⟨oc9, od9, .func (PySem.W.fnOf "judged_pair" "judged_pair" (defArgs st_judged_pair) (defBody st_judged_pair) (defScope st_judged_pair) .none kV9 dc9 pm9 an9 cd9 ct9), sl9⟩) (c9 : PySem.W.codeIn K cd9 "judged_pair" = true) (k9 : PySem.W.keepIn K (.ref f9) = true)
    {f10 : Addr} {od10 an10 : Option Addr} {sl10 : Array (Option Value)} {oc10 kV10 dc10 pm10 cd10 ct10 : Value}
        (a10 : PySem.W.nsIn K mainGlobals "judged_out" = some (some (.ref f10))) (l10 : K.lookup f10 = some ⟨oc10, od10, .func (PySem.W.fnOf "judged_out" "judged_out" (defArgs st_judged_out) (defBody st_judged_out) (defScope st_judged_out) .none kV10 dc10 pm10 an10 cd10 ct10), sl10⟩) (c10 : PySem.W.codeIn K cd10 "judged_out" = true) (k10 : PySem.W.keepIn K (.ref f10) = true)
    {f11 : Addr} {od11 an11 : Option Addr} {sl11 : Array (Option Value)} {oc11 kV11 dc11 pm11 cd11 ct11 : Value}
        (a11 : PySem.W.nsIn K mainGlobals "judged" = some (some (.ref f11))) (l11 : K.lookup f11 = some ⟨oc11, od11, .func (PySem.W.fnOf "judged" "judged" (defArgs st_judged) (defBody st_judged) (defScope st_judged) .none kV11 dc11 pm11 an11 cd11 ct11), sl11⟩) (c11 : PySem.W.codeIn K cd11 "judged" = true) (k11 : PySem.W.keepIn K (.ref f11) = true)
    {f12 : Addr} {od12 an12 : Option Addr} {sl12 : Array (Option Value)} {oc12 kV12 dc12 pm12 cd12 ct12 : Value}
        (a12 : PySem.W.nsIn K mainGlobals "is_depth" = some (some (.ref f12))) (l12 : K.lookup f12 = some ⟨oc12, od12, .func (PySem.W.fnOf "is_depth" "is_depth" (defArgs st_is_depth) (defBody st_is_depth) (defScope st_is_depth) .none kV12 dc12 pm12 an12 cd12 ct12), sl12⟩) (c12 : PySem.W.codeIn K cd12 "is_depth" = true) (k12 : PySem.W.keepIn K (.ref f12) = true)
    {f13 : Addr} {od13 an13 : Option Addr} {sl13 : Array (Option Value)} {oc13 kV13 dc13 pm13 cd13 ct13 : Value}
        (a13 : PySem.W.nsIn K mainGlobals "look_at_layers" = some (some (.ref f13))) (l13 : K.lookup f13 = some ⟨oc13, od13, .func (PySem.W.fnOf "look_at_layers" "look_at_layers" (defArgs st_look_at_layers) (defBody st_look_at_layers) (defScope st_look_at_layers) .none kV13 dc13 pm13 an13 cd13 ct13), sl13⟩) (c13 : PySem.W.codeIn K cd13 "look_at_layers" = true) (k13 : PySem.W.keepIn K (.ref f13) = true)
    {f14 : Addr} {od14 an14 : Option Addr} {sl14 : Array (Option Value)} {oc14 kV14 dc14 pm14 cd14 ct14 : Value}
        (a14 : PySem.W.nsIn K mainGlobals "layer_for" = some (some (.ref f14))) (l14 : K.lookup f14 = some ⟨oc14, od14, .func (PySem.W.fnOf "layer_for" "layer_for" (defArgs st_layer_for) (defBody st_layer_for) (defScope st_layer_for) .none kV14 dc14 pm14 an14 cd14 ct14), sl14⟩) (c14 : PySem.W.codeIn K cd14 "layer_for" = true) (k14 : PySem.W.keepIn K (.ref f14) = true)
    {f15 : Addr} {od15 an15 : Option Addr} {sl15 : Array (Option Value)} {oc15 kV15 dc15 pm15 cd15 ct15 : Value}
        (a15 : PySem.W.nsIn K mainGlobals "layered" = some (some (.ref f15))) (l15 : K.lookup f15 = some ⟨oc15, od15, .func (PySem.W.fnOf "layered" "layered" (defArgs st_layered) (defBody st_layered) (defScope st_layered) .none kV15 dc15 pm15 an15 cd15 ct15), sl15⟩) (c15 : PySem.W.codeIn K cd15 "layered" = true) (k15 : PySem.W.keepIn K (.ref f15) = true)
    {f16 : Addr} {od16 an16 : Option Addr} {sl16 : Array (Option Value)} {oc16 kV16 dc16 pm16 cd16 ct16 : Value}
        (a16 : PySem.W.nsIn K mainGlobals "way_in" = some (some (.ref f16))) (l16 : K.lookup f16 = some ⟨oc16, od16, .func (PySem.W.fnOf "way_in" "way_in" (defArgs st_way_in) (defBody st_way_in) (defScope st_way_in) .none kV16 dc16 pm16 an16 cd16 ct16), sl16⟩) (c16 : PySem.W.codeIn K cd16 "way_in" = true) (k16 : PySem.W.keepIn K (.ref f16) = true)
    {f17 : Addr} {od17 an17 : Option Addr} {sl17 : Array (Option Value)} {oc17 kV17 dc17 pm17 cd17 ct17 : Value}
        (a17 : PySem.W.nsIn K mainGlobals "strands" = some (some (.ref f17))) (l17 : K.lookup f17 = some ⟨oc17, od17, .func (PySem.W.fnOf "strands" "strands" (defArgs st_strands) (defBody st_strands) (defScope st_strands) .none kV17 dc17 pm17 an17 cd17 ct17), sl17⟩) (c17 : PySem.W.codeIn K cd17 "strands" = true) (k17 : PySem.W.keepIn K (.ref f17) = true)
    {f18 : Addr} {od18 an18 : Option Addr} {sl18 : Array (Option Value)} {oc18 kV18 dc18 pm18 cd18 ct18 : Value}
        (a18 : PySem.W.nsIn K mainGlobals "_law_mixed" = some (some (.ref f18))) (l18 : K.lookup f18 = some ⟨oc18, od18, .func (PySem.W.fnOf "_law_mixed" "_law_mixed" (defArgs st_l_mixed) (defBody st_l_mixed) (defScope st_l_mixed) .none kV18 dc18 pm18 an18 cd18 ct18), sl18⟩) (c18 : PySem.W.codeIn K cd18 "_law_mixed" = true) (k18 : PySem.W.keepIn K (.ref f18) = true)
    {f19 : Addr} {od19 an19 : Option Addr} {sl19 : Array (Option Value)} {oc19 kV19 dc19 pm19 cd19 ct19 : Value}
        (a19 : PySem.W.nsIn K mainGlobals "_law_numbers" = some (some (.ref f19))) (l19 : K.lookup f19 = some ⟨oc19, od19, .func (PySem.W.fnOf "_law_numbers" "_law_numbers" (defArgs st_l_numbers) (defBody st_l_numbers) (defScope st_l_numbers) .none kV19 dc19 pm19 an19 cd19 ct19), sl19⟩) (c19 : PySem.W.codeIn K cd19 "_law_numbers" = true) (k19 : PySem.W.keepIn K (.ref f19) = true)
    {f20 : Addr} {od20 an20 : Option Addr} {sl20 : Array (Option Value)} {oc20 kV20 dc20 pm20 cd20 ct20 : Value}
        (a20 : PySem.W.nsIn K mainGlobals "_law_ends" = some (some (.ref f20))) (l20 : K.lookup f20 = some ⟨oc20, od20, .func (PySem.W.fnOf "_law_ends" "_law_ends" (defArgs st_l_ends) (defBody st_l_ends) (defScope st_l_ends) .none kV20 dc20 pm20 an20 cd20 ct20), sl20⟩) (c20 : PySem.W.codeIn K cd20 "_law_ends" = true) (k20 : PySem.W.keepIn K (.ref f20) = true)
    {f21 : Addr} {od21 an21 : Option Addr} {sl21 : Array (Option Value)} {oc21 kV21 dc21 pm21 cd21 ct21 : Value}
        (a21 : PySem.W.nsIn K mainGlobals "_law_record" = some (some (.ref f21))) (l21 : K.lookup f21 = some ⟨oc21, od21, .func (PySem.W.fnOf "_law_record" "_law_record" (defArgs st_l_record) (defBody st_l_record) (defScope st_l_record) .none kV21 dc21 pm21 an21 cd21 ct21), sl21⟩) (c21 : PySem.W.codeIn K cd21 "_law_record" = true) (k21 : PySem.W.keepIn K (.ref f21) = true)
    {f22 : Addr} {od22 an22 : Option Addr} {sl22 : Array (Option Value)} {oc22 kV22 dc22 pm22 cd22 ct22 : Value}
        (a22 : PySem.W.nsIn K mainGlobals "_law_depth" = some (some (.ref f22))) (l22 : K.lookup f22 = some ⟨oc22, od22, .func (PySem.W.fnOf "_law_depth" "_law_depth" (defArgs st_l_depth) (defBody st_l_depth) (defScope st_l_depth) .none kV22 dc22 pm22 an22 cd22 ct22), sl22⟩) (c22 : PySem.W.codeIn K cd22 "_law_depth" = true) (k22 : PySem.W.keepIn K (.ref f22) = true)
    {f23 : Addr} {od23 an23 : Option Addr} {sl23 : Array (Option Value)} {oc23 kV23 dc23 pm23 cd23 ct23 : Value}
        (a23 : PySem.W.nsIn K mainGlobals "_law_free_way" = some (some (.ref f23))) (l23 : K.lookup f23 = some ⟨oc23, od23, .func (PySem.W.fnOf "_law_free_way" "_law_free_way" (defArgs st_l_free_way) (defBody st_l_free_way) (defScope st_l_free_way) .none kV23 dc23 pm23 an23 cd23 ct23), sl23⟩) (c23 : PySem.W.codeIn K cd23 "_law_free_way" = true) (k23 : PySem.W.keepIn K (.ref f23) = true)
    {f24 : Addr} {od24 an24 : Option Addr} {sl24 : Array (Option Value)} {oc24 kV24 dc24 pm24 cd24 ct24 : Value}
        (a24 : PySem.W.nsIn K mainGlobals "_law_ways" = some (some (.ref f24))) (l24 : K.lookup f24 = some ⟨oc24, od24, .func (PySem.W.fnOf "_law_ways" "_law_ways" (defArgs st_l_ways) (defBody st_l_ways) (defScope st_l_ways) .none kV24 dc24 pm24 an24 cd24 ct24), sl24⟩) (c24 : PySem.W.codeIn K cd24 "_law_ways" = true) (k24 : PySem.W.keepIn K (.ref f24) = true)
    {f25 : Addr} {od25 an25 : Option Addr} {sl25 : Array (Option Value)} {oc25 kV25 dc25 pm25 cd25 ct25 : Value}
        (a25 : PySem.W.nsIn K mainGlobals "_law_sides" = some (some (.ref f25))) (l25 : K.lookup f25 = some ⟨oc25, od25, .func (PySem.W.fnOf "_law_sides" "_law_sides" (defArgs st_l_sides) (defBody st_l_sides) (defScope st_l_sides) .none kV25 dc25 pm25 an25 cd25 ct25), sl25⟩) (c25 : PySem.W.codeIn K cd25 "_law_sides" = true) (k25 : PySem.W.keepIn K (.ref f25) = true)
    {f26 : Addr} {od26 an26 : Option Addr} {sl26 : Array (Option Value)} {oc26 kV26 dc26 pm26 cd26 ct26 : Value}
        (a26 : PySem.W.nsIn K mainGlobals "_law_strands_right" = some (some (.ref f26))) (l26 : K.lookup f26 = some ⟨oc26, od26, .func (PySem.W.fnOf "_law_strands_right" "_law_strands_right" (defArgs st_l_strands_right) (defBody st_l_strands_right) (defScope st_l_strands_right) .none kV26 dc26 pm26 an26 cd26 ct26), sl26⟩) (c26 : PySem.W.codeIn K cd26 "_law_strands_right" = true) (k26 : PySem.W.keepIn K (.ref f26) = true)
    {f27 : Addr} {od27 an27 : Option Addr} {sl27 : Array (Option Value)} {oc27 kV27 dc27 pm27 cd27 ct27 : Value}
        (a27 : PySem.W.nsIn K mainGlobals "law" = some (some (.ref f27))) (l27 : K.lookup f27 = some ⟨oc27, od27, .func (PySem.W.fnOf "law" "law" (defArgs st_law) (defBody st_law) (defScope st_law) .none kV27 dc27 pm27 an27 cd27 ct27), sl27⟩) (c27 : PySem.W.codeIn K cd27 "law" = true) (k27 : PySem.W.keepIn K (.ref f27) = true)
        (z_isinstance : PySem.W.nsIn K mainGlobals "isinstance" = some none)
        (z_int : PySem.W.nsIn K mainGlobals "int" = some none)
        (z_bool : PySem.W.nsIn K mainGlobals "bool" = some none)
        (z_min : PySem.W.nsIn K mainGlobals "min" = some none)
        (z_max : PySem.W.nsIn K mainGlobals "max" = some none)
        (z_list : PySem.W.nsIn K mainGlobals "list" = some none)
        (z_all : PySem.W.nsIn K mainGlobals "all" = some none)
        (z_len : PySem.W.nsIn K mainGlobals "len" = some none)
        (z_tuple : PySem.W.nsIn K mainGlobals "tuple" = some none)
        (z_range : PySem.W.nsIn K mainGlobals "range" = some none)
        (z_enumerate : PySem.W.nsIn K mainGlobals "enumerate" = some none)
        (z_reversed : PySem.W.nsIn K mainGlobals "reversed" = some none)
        {tk_MOST_LAYERS : Tok} (y_MOST_LAYERS : PySem.W.nsIn K mainGlobals "MOST_LAYERS" = some (some (.int (6) tk_MOST_LAYERS))) : Tx K mg where
  a_is_whole := f0
  d_is_whole := _
  F_is_whole := fun_mk (st := st_is_whole) l0 c0 k0
  m_is_whole := PySem.W.mg_of X G a0
  b_is_whole := (fun_mk (st := st_is_whole) l0 c0 k0).binds fun _ _ _ _ _ _ us hl => match us, hl with | [_], _ => rfl
  a_is_place := f1
  d_is_place := _
  F_is_place := fun_mk (st := st_is_place) l1 c1 k1
  m_is_place := PySem.W.mg_of X G a1
  b_is_place := (fun_mk (st := st_is_place) l1 c1 k1).binds fun _ _ _ _ _ _ us hl => match us, hl with | [_, _], _ => rfl
  a_since := f2
  d_since := _
  F_since := fun_mk (st := st_since) l2 c2 k2
  m_since := PySem.W.mg_of X G a2
  b_since := (fun_mk (st := st_since) l2 c2 k2).binds fun _ _ _ _ _ _ us hl => match us, hl with | [_, _], _ => rfl
  a_rim := f3
  d_rim := _
  F_rim := fun_mk (st := st_rim) l3 c3 k3
  m_rim := PySem.W.mg_of X G a3
  b_rim := (fun_mk (st := st_rim) l3 c3 k3).binds fun _ _ _ _ _ _ us hl => match us, hl with | [_, _], _ => rfl
  a_joined := f4
  d_joined := _
  F_joined := fun_mk (st := st_joined) l4 c4 k4
  m_joined := PySem.W.mg_of X G a4
  b_joined := (fun_mk (st := st_joined) l4 c4 k4).binds fun _ _ _ _ _ _ us hl => match us, hl with | [_, _, _], _ => rfl
  a_way_right := f5
  d_way_right := _
  F_way_right := fun_mk (st := st_way_right) l5 c5 k5
  m_way_right := PySem.W.mg_of X G a5
  b_way_right := (fun_mk (st := st_way_right) l5 c5 k5).binds fun _ _ _ _ _ _ us hl => match us, hl with | [_, _, _, _], _ => rfl
  a_are_apart := f6
  d_are_apart := _
  F_are_apart := fun_mk (st := st_are_apart) l6 c6 k6
  m_are_apart := PySem.W.mg_of X G a6
  b_are_apart := (fun_mk (st := st_are_apart) l6 c6 k6).binds fun _ _ _ _ _ _ us hl => match us, hl with | [_], _ => rfl
  a_many_ways := f7
  d_many_ways := _
  F_many_ways := fun_mk (st := st_many_ways) l7 c7 k7
  m_many_ways := PySem.W.mg_of X G a7
  b_many_ways := (fun_mk (st := st_many_ways) l7 c7 k7).binds fun _ _ _ _ _ _ us hl => match us, hl with | [_, _, _, _], _ => rfl
  a_is_side := f8
  d_is_side := _
  F_is_side := fun_mk (st := st_is_side) l8 c8 k8
  m_is_side := PySem.W.mg_of X G a8
  b_is_side := (fun_mk (st := st_is_side) l8 c8 k8).binds fun _ _ _ _ _ _ us hl => match us, hl with | [_, _], _ => rfl
  a_judged_pair := f9
  d_judged_pair := _
  F_judged_pair := fun_mk (st := st_judged_pair) l9 c9 k9
  m_judged_pair := PySem.W.mg_of X G a9
  b_judged_pair := (fun_mk (st := st_judged_pair) l9 c9 k9).binds fun _ _ _ _ _ _ us hl => match us, hl with | [_, _, _], _ => rfl
  a_judged_out := f10
  d_judged_out := _
  F_judged_out := fun_mk (st := st_judged_out) l10 c10 k10
  m_judged_out := PySem.W.mg_of X G a10
  b_judged_out := (fun_mk (st := st_judged_out) l10 c10 k10).binds fun _ _ _ _ _ _ us hl => match us, hl with | [_, _], _ => rfl
  a_judged := f11
  d_judged := _
  F_judged := fun_mk (st := st_judged) l11 c11 k11
  m_judged := PySem.W.mg_of X G a11
  b_judged := (fun_mk (st := st_judged) l11 c11 k11).binds fun _ _ _ _ _ _ us hl => match us, hl with | [_, _, _], _ => rfl
  a_is_depth := f12
  d_is_depth := _
  F_is_depth := fun_mk (st := st_is_depth) l12 c12 k12
  m_is_depth := PySem.W.mg_of X G a12
  b_is_depth := (fun_mk (st := st_is_depth) l12 c12 k12).binds fun _ _ _ _ _ _ us hl => match us, hl with | [_], _ => rfl
  a_look_at_layers := f13
  d_look_at_layers := _
  F_look_at_layers := fun_mk (st := st_look_at_layers) l13 c13 k13
  m_look_at_layers := PySem.W.mg_of X G a13
  b_look_at_layers := (fun_mk (st := st_look_at_layers) l13 c13 k13).binds fun _ _ _ _ _ _ us hl => match us, hl with | [_], _ => rfl
  a_layer_for := f14
  d_layer_for := _
  F_layer_for := fun_mk (st := st_layer_for) l14 c14 k14
  m_layer_for := PySem.W.mg_of X G a14
  b_layer_for := (fun_mk (st := st_layer_for) l14 c14 k14).binds fun _ _ _ _ _ _ us hl => match us, hl with | [_, _, _], _ => rfl
  a_layered := f15
  d_layered := _
  F_layered := fun_mk (st := st_layered) l15 c15 k15
  m_layered := PySem.W.mg_of X G a15
  b_layered := (fun_mk (st := st_layered) l15 c15 k15).binds fun _ _ _ _ _ _ us hl => match us, hl with | [_, _, _], _ => rfl
  a_way_in := f16
  d_way_in := _
  F_way_in := fun_mk (st := st_way_in) l16 c16 k16
  m_way_in := PySem.W.mg_of X G a16
  b_way_in := (fun_mk (st := st_way_in) l16 c16 k16).binds fun _ _ _ _ _ _ us hl => match us, hl with | [_, _, _], _ => rfl
  a_strands := f17
  d_strands := _
  F_strands := fun_mk (st := st_strands) l17 c17 k17
  m_strands := PySem.W.mg_of X G a17
  b_strands := (fun_mk (st := st_strands) l17 c17 k17).binds fun _ _ _ _ _ _ us hl => match us, hl with | [_, _, _, _], _ => rfl
  a_l_mixed := f18
  d_l_mixed := _
  F_l_mixed := fun_mk (st := st_l_mixed) l18 c18 k18
  m_l_mixed := PySem.W.mg_of X G a18
  b_l_mixed := (fun_mk (st := st_l_mixed) l18 c18 k18).binds fun _ _ _ _ _ _ us hl => match us, hl with | [_, _], _ => rfl
  a_l_numbers := f19
  d_l_numbers := _
  F_l_numbers := fun_mk (st := st_l_numbers) l19 c19 k19
  m_l_numbers := PySem.W.mg_of X G a19
  b_l_numbers := (fun_mk (st := st_l_numbers) l19 c19 k19).binds fun _ _ _ _ _ _ us hl => match us, hl with | [_, _, _], _ => rfl
  a_l_ends := f20
  d_l_ends := _
  F_l_ends := fun_mk (st := st_l_ends) l20 c20 k20
  m_l_ends := PySem.W.mg_of X G a20
  b_l_ends := (fun_mk (st := st_l_ends) l20 c20 k20).binds fun _ _ _ _ _ _ us hl => match us, hl with | [_, _, _, _], _ => rfl
  a_l_record := f21
  d_l_record := _
  F_l_record := fun_mk (st := st_l_record) l21 c21 k21
  m_l_record := PySem.W.mg_of X G a21
  b_l_record := (fun_mk (st := st_l_record) l21 c21 k21).binds fun _ _ _ _ _ _ us hl => match us, hl with | [_, _], _ => rfl
  a_l_depth := f22
  d_l_depth := _
  F_l_depth := fun_mk (st := st_l_depth) l22 c22 k22
  m_l_depth := PySem.W.mg_of X G a22
  b_l_depth := (fun_mk (st := st_l_depth) l22 c22 k22).binds fun _ _ _ _ _ _ us hl => match us, hl with | [_], _ => rfl
  a_l_free_way := f23
  d_l_free_way := _
  F_l_free_way := fun_mk (st := st_l_free_way) l23 c23 k23
  m_l_free_way := PySem.W.mg_of X G a23
  b_l_free_way := (fun_mk (st := st_l_free_way) l23 c23 k23).binds fun _ _ _ _ _ _ us hl => match us, hl with | [_, _, _], _ => rfl
  a_l_ways := f24
  d_l_ways := _
  F_l_ways := fun_mk (st := st_l_ways) l24 c24 k24
  m_l_ways := PySem.W.mg_of X G a24
  b_l_ways := (fun_mk (st := st_l_ways) l24 c24 k24).binds fun _ _ _ _ _ _ us hl => match us, hl with | [_, _, _], _ => rfl
  a_l_sides := f25
  d_l_sides := _
  F_l_sides := fun_mk (st := st_l_sides) l25 c25 k25
  m_l_sides := PySem.W.mg_of X G a25
  b_l_sides := (fun_mk (st := st_l_sides) l25 c25 k25).binds fun _ _ _ _ _ _ us hl => match us, hl with | [_, _, _, _], _ => rfl
  a_l_strands_right := f26
  d_l_strands_right := _
  F_l_strands_right := fun_mk (st := st_l_strands_right) l26 c26 k26
  m_l_strands_right := PySem.W.mg_of X G a26
  b_l_strands_right := (fun_mk (st := st_l_strands_right) l26 c26 k26).binds fun _ _ _ _ _ _ us hl => match us, hl with | [_, _, _, _, _], _ => rfl
  a_law := f27
  d_law := _
  F_law := fun_mk (st := st_law) l27 c27 k27
  m_law := PySem.W.mg_of X G a27
  b_law := (fun_mk (st := st_law) l27 c27 k27).binds fun _ _ _ _ _ _ us hl => match us, hl with | [_], _ => rfl
  n_isinstance := PySem.W.mg_none_of X G z_isinstance
  n_int := PySem.W.mg_none_of X G z_int
  n_bool := PySem.W.mg_none_of X G z_bool
  n_min := PySem.W.mg_none_of X G z_min
  n_max := PySem.W.mg_none_of X G z_max
  n_list := PySem.W.mg_none_of X G z_list
  n_all := PySem.W.mg_none_of X G z_all
  n_len := PySem.W.mg_none_of X G z_len
  n_tuple := PySem.W.mg_none_of X G z_tuple
  n_range := PySem.W.mg_none_of X G z_range
  n_enumerate := PySem.W.mg_none_of X G z_enumerate
  n_reversed := PySem.W.mg_none_of X G z_reversed
  c_MOST_LAYERS := ⟨tk_MOST_LAYERS, PySem.W.mg_of X G y_MOST_LAYERS⟩
theorem all_mk {l : PySem.W.OpenLaw} {fa : Addr} (X : K.In h) (G : h.Ns mainGlobals mg) (hfa : mg "law" = some (.ref fa))
    {f0 : Addr} {od0 an0 : Option Addr} {sl0 : Array (Option Value)} {oc0 kV0 dc0 pm0 cd0 ct0 : Value}
        (a0 : PySem.W.nsIn K mainGlobals "is_whole" = some (some (.ref f0))) (l0 : K.lookup f0 = some ⟨oc0, od0, .func (PySem.W.fnOf "is_whole" "is_whole" (defArgs st_is_whole) (defBody st_is_whole) (defScope st_is_whole) .none kV0 dc0 pm0 an0 cd0 ct0), sl0⟩) (c0 : PySem.W.codeIn K cd0 "is_whole" = true) (k0 : PySem.W.keepIn K (.ref f0) = true)
    {f1 : Addr} {od1 an1 : Option Addr} {sl1 : Array (Option Value)} {oc1 kV1 dc1 pm1 cd1 ct1 : Value}
        (a1 : PySem.W.nsIn K mainGlobals "is_place" = some (some (.ref f1))) (l1 : K.lookup f1 = some ⟨oc1, od1, .func (PySem.W.fnOf "is_place" "is_place" (defArgs st_is_place) (defBody st_is_place) (defScope st_is_place) .none kV1 dc1 pm1 an1 cd1 ct1), sl1⟩) (c1 : PySem.W.codeIn K cd1 "is_place" = true) (k1 : PySem.W.keepIn K (.ref f1) = true)
    {f2 : Addr} {od2 an2 : Option Addr} {sl2 : Array (Option Value)} {oc2 kV2 dc2 pm2 cd2 ct2 : Value}
        (a2 : PySem.W.nsIn K mainGlobals "since" = some (some (.ref f2))) (l2 : K.lookup f2 = some ⟨oc2, od2, .func (PySem.W.fnOf "since" "since" (defArgs st_since) (defBody st_since) (defScope st_since) .none kV2 dc2 pm2 an2 cd2 ct2), sl2⟩) (c2 : PySem.W.codeIn K cd2 "since" = true) (k2 : PySem.W.keepIn K (.ref f2) = true)
    {f3 : Addr} {od3 an3 : Option Addr} {sl3 : Array (Option Value)} {oc3 kV3 dc3 pm3 cd3 ct3 : Value}
        (a3 : PySem.W.nsIn K mainGlobals "rim" = some (some (.ref f3))) (l3 : K.lookup f3 = some ⟨oc3, od3, .func (PySem.W.fnOf "rim" "rim" (defArgs st_rim) (defBody st_rim) (defScope st_rim) .none kV3 dc3 pm3 an3 cd3 ct3), sl3⟩) (c3 : PySem.W.codeIn K cd3 "rim" = true) (k3 : PySem.W.keepIn K (.ref f3) = true)
    {f4 : Addr} {od4 an4 : Option Addr} {sl4 : Array (Option Value)} {oc4 kV4 dc4 pm4 cd4 ct4 : Value}
        (a4 : PySem.W.nsIn K mainGlobals "joined" = some (some (.ref f4))) (l4 : K.lookup f4 = some ⟨oc4, od4, .func (PySem.W.fnOf "joined" "joined" (defArgs st_joined) (defBody st_joined) (defScope st_joined) .none kV4 dc4 pm4 an4 cd4 ct4), sl4⟩) (c4 : PySem.W.codeIn K cd4 "joined" = true) (k4 : PySem.W.keepIn K (.ref f4) = true)
    {f5 : Addr} {od5 an5 : Option Addr} {sl5 : Array (Option Value)} {oc5 kV5 dc5 pm5 cd5 ct5 : Value}
        (a5 : PySem.W.nsIn K mainGlobals "way_right" = some (some (.ref f5))) (l5 : K.lookup f5 = some ⟨oc5, od5, .func (PySem.W.fnOf "way_right" "way_right" (defArgs st_way_right) (defBody st_way_right) (defScope st_way_right) .none kV5 dc5 pm5 an5 cd5 ct5), sl5⟩) (c5 : PySem.W.codeIn K cd5 "way_right" = true) (k5 : PySem.W.keepIn K (.ref f5) = true)
    {f6 : Addr} {od6 an6 : Option Addr} {sl6 : Array (Option Value)} {oc6 kV6 dc6 pm6 cd6 ct6 : Value}
        (a6 : PySem.W.nsIn K mainGlobals "are_apart" = some (some (.ref f6))) (l6 : K.lookup f6 = some ⟨oc6, od6, .func (PySem.W.fnOf "are_apart" "are_apart" (defArgs st_are_apart) (defBody st_are_apart) (defScope st_are_apart) .none kV6 dc6 pm6 an6 cd6 ct6), sl6⟩) (c6 : PySem.W.codeIn K cd6 "are_apart" = true) (k6 : PySem.W.keepIn K (.ref f6) = true)
    {f7 : Addr} {od7 an7 : Option Addr} {sl7 : Array (Option Value)} {oc7 kV7 dc7 pm7 cd7 ct7 : Value}
        (a7 : PySem.W.nsIn K mainGlobals "many_ways" = some (some (.ref f7))) (l7 : K.lookup f7 = some ⟨oc7, od7, .func (PySem.W.fnOf "many_ways" "many_ways" (defArgs st_many_ways) (defBody st_many_ways) (defScope st_many_ways) .none kV7 dc7 pm7 an7 cd7 ct7), sl7⟩) (c7 : PySem.W.codeIn K cd7 "many_ways" = true) (k7 : PySem.W.keepIn K (.ref f7) = true)
    {f8 : Addr} {od8 an8 : Option Addr} {sl8 : Array (Option Value)} {oc8 kV8 dc8 pm8 cd8 ct8 : Value}
        (a8 : PySem.W.nsIn K mainGlobals "is_side" = some (some (.ref f8))) (l8 : K.lookup f8 = some ⟨oc8, od8, .func (PySem.W.fnOf "is_side" "is_side" (defArgs st_is_side) (defBody st_is_side) (defScope st_is_side) .none kV8 dc8 pm8 an8 cd8 ct8), sl8⟩) (c8 : PySem.W.codeIn K cd8 "is_side" = true) (k8 : PySem.W.keepIn K (.ref f8) = true)
    {f9 : Addr} {od9 an9 : Option Addr} {sl9 : Array (Option Value)} {oc9 kV9 dc9 pm9 cd9 ct9 : Value}
        (a9 : PySem.W.nsIn K mainGlobals "judged_pair" = some (some (.ref f9))) (l9 : K.lookup f9 = some ⟨oc9, od9, .func (PySem.W.fnOf "judged_pair" "judged_pair" (defArgs st_judged_pair) (defBody st_judged_pair) (defScope st_judged_pair) .none kV9 dc9 pm9 an9 cd9 ct9), sl9⟩) (c9 : PySem.W.codeIn K cd9 "judged_pair" = true) (k9 : PySem.W.keepIn K (.ref f9) = true)
    {f10 : Addr} {od10 an10 : Option Addr} {sl10 : Array (Option Value)} {oc10 kV10 dc10 pm10 cd10 ct10 : Value}
        (a10 : PySem.W.nsIn K mainGlobals "judged_out" = some (some (.ref f10))) (l10 : K.lookup f10 = some ⟨oc10, od10, .func (PySem.W.fnOf "judged_out" "judged_out" (defArgs st_judged_out) (defBody st_judged_out) (defScope st_judged_out) .none kV10 dc10 pm10 an10 cd10 ct10), sl10⟩) (c10 : PySem.W.codeIn K cd10 "judged_out" = true) (k10 : PySem.W.keepIn K (.ref f10) = true)
    {f11 : Addr} {od11 an11 : Option Addr} {sl11 : Array (Option Value)} {oc11 kV11 dc11 pm11 cd11 ct11 : Value}
        (a11 : PySem.W.nsIn K mainGlobals "judged" = some (some (.ref f11))) (l11 : K.lookup f11 = some ⟨oc11, od11, .func (PySem.W.fnOf "judged" "judged" (defArgs st_judged) (defBody st_judged) (defScope st_judged) .none kV11 dc11 pm11 an11 cd11 ct11), sl11⟩) (c11 : PySem.W.codeIn K cd11 "judged" = true) (k11 : PySem.W.keepIn K (.ref f11) = true)
    {f12 : Addr} {od12 an12 : Option Addr} {sl12 : Array (Option Value)} {oc12 kV12 dc12 pm12 cd12 ct12 : Value}
        (a12 : PySem.W.nsIn K mainGlobals "is_depth" = some (some (.ref f12))) (l12 : K.lookup f12 = some ⟨oc12, od12, .func (PySem.W.fnOf "is_depth" "is_depth" (defArgs st_is_depth) (defBody st_is_depth) (defScope st_is_depth) .none kV12 dc12 pm12 an12 cd12 ct12), sl12⟩) (c12 : PySem.W.codeIn K cd12 "is_depth" = true) (k12 : PySem.W.keepIn K (.ref f12) = true)
    {f13 : Addr} {od13 an13 : Option Addr} {sl13 : Array (Option Value)} {oc13 kV13 dc13 pm13 cd13 ct13 : Value}
        (a13 : PySem.W.nsIn K mainGlobals "look_at_layers" = some (some (.ref f13))) (l13 : K.lookup f13 = some ⟨oc13, od13, .func (PySem.W.fnOf "look_at_layers" "look_at_layers" (defArgs st_look_at_layers) (defBody st_look_at_layers) (defScope st_look_at_layers) .none kV13 dc13 pm13 an13 cd13 ct13), sl13⟩) (c13 : PySem.W.codeIn K cd13 "look_at_layers" = true) (k13 : PySem.W.keepIn K (.ref f13) = true)
    {f14 : Addr} {od14 an14 : Option Addr} {sl14 : Array (Option Value)} {oc14 kV14 dc14 pm14 cd14 ct14 : Value}
        (a14 : PySem.W.nsIn K mainGlobals "layer_for" = some (some (.ref f14))) (l14 : K.lookup f14 = some ⟨oc14, od14, .func (PySem.W.fnOf "layer_for" "layer_for" (defArgs st_layer_for) (defBody st_layer_for) (defScope st_layer_for) .none kV14 dc14 pm14 an14 cd14 ct14), sl14⟩) (c14 : PySem.W.codeIn K cd14 "layer_for" = true) (k14 : PySem.W.keepIn K (.ref f14) = true)
    {f15 : Addr} {od15 an15 : Option Addr} {sl15 : Array (Option Value)} {oc15 kV15 dc15 pm15 cd15 ct15 : Value}
        (a15 : PySem.W.nsIn K mainGlobals "layered" = some (some (.ref f15))) (l15 : K.lookup f15 = some ⟨oc15, od15, .func (PySem.W.fnOf "layered" "layered" (defArgs st_layered) (defBody st_layered) (defScope st_layered) .none kV15 dc15 pm15 an15 cd15 ct15), sl15⟩) (c15 : PySem.W.codeIn K cd15 "layered" = true) (k15 : PySem.W.keepIn K (.ref f15) = true)
    {f16 : Addr} {od16 an16 : Option Addr} {sl16 : Array (Option Value)} {oc16 kV16 dc16 pm16 cd16 ct16 : Value}
        (a16 : PySem.W.nsIn K mainGlobals "way_in" = some (some (.ref f16))) (l16 : K.lookup f16 = some ⟨oc16, od16, .func (PySem.W.fnOf "way_in" "way_in" (defArgs st_way_in) (defBody st_way_in) (defScope st_way_in) .none kV16 dc16 pm16 an16 cd16 ct16), sl16⟩) (c16 : PySem.W.codeIn K cd16 "way_in" = true) (k16 : PySem.W.keepIn K (.ref f16) = true)
    {f17 : Addr} {od17 an17 : Option Addr} {sl17 : Array (Option Value)} {oc17 kV17 dc17 pm17 cd17 ct17 : Value}
        (a17 : PySem.W.nsIn K mainGlobals "strands" = some (some (.ref f17))) (l17 : K.lookup f17 = some ⟨oc17, od17, .func (PySem.W.fnOf "strands" "strands" (defArgs st_strands) (defBody st_strands) (defScope st_strands) .none kV17 dc17 pm17 an17 cd17 ct17), sl17⟩) (c17 : PySem.W.codeIn K cd17 "strands" = true) (k17 : PySem.W.keepIn K (.ref f17) = true)
    {f18 : Addr} {od18 an18 : Option Addr} {sl18 : Array (Option Value)} {oc18 kV18 dc18 pm18 cd18 ct18 : Value}
        (a18 : PySem.W.nsIn K mainGlobals "_law_mixed" = some (some (.ref f18))) (l18 : K.lookup f18 = some ⟨oc18, od18, .func (PySem.W.fnOf "_law_mixed" "_law_mixed" (defArgs st_l_mixed) (defBody st_l_mixed) (defScope st_l_mixed) .none kV18 dc18 pm18 an18 cd18 ct18), sl18⟩) (c18 : PySem.W.codeIn K cd18 "_law_mixed" = true) (k18 : PySem.W.keepIn K (.ref f18) = true)
    {f19 : Addr} {od19 an19 : Option Addr} {sl19 : Array (Option Value)} {oc19 kV19 dc19 pm19 cd19 ct19 : Value}
        (a19 : PySem.W.nsIn K mainGlobals "_law_numbers" = some (some (.ref f19))) (l19 : K.lookup f19 = some ⟨oc19, od19, .func (PySem.W.fnOf "_law_numbers" "_law_numbers" (defArgs st_l_numbers) (defBody st_l_numbers) (defScope st_l_numbers) .none kV19 dc19 pm19 an19 cd19 ct19), sl19⟩) (c19 : PySem.W.codeIn K cd19 "_law_numbers" = true) (k19 : PySem.W.keepIn K (.ref f19) = true)
    {f20 : Addr} {od20 an20 : Option Addr} {sl20 : Array (Option Value)} {oc20 kV20 dc20 pm20 cd20 ct20 : Value}
        (a20 : PySem.W.nsIn K mainGlobals "_law_ends" = some (some (.ref f20))) (l20 : K.lookup f20 = some ⟨oc20, od20, .func (PySem.W.fnOf "_law_ends" "_law_ends" (defArgs st_l_ends) (defBody st_l_ends) (defScope st_l_ends) .none kV20 dc20 pm20 an20 cd20 ct20), sl20⟩) (c20 : PySem.W.codeIn K cd20 "_law_ends" = true) (k20 : PySem.W.keepIn K (.ref f20) = true)
    {f21 : Addr} {od21 an21 : Option Addr} {sl21 : Array (Option Value)} {oc21 kV21 dc21 pm21 cd21 ct21 : Value}
        (a21 : PySem.W.nsIn K mainGlobals "_law_record" = some (some (.ref f21))) (l21 : K.lookup f21 = some ⟨oc21, od21, .func (PySem.W.fnOf "_law_record" "_law_record" (defArgs st_l_record) (defBody st_l_record) (defScope st_l_record) .none kV21 dc21 pm21 an21 cd21 ct21), sl21⟩) (c21 : PySem.W.codeIn K cd21 "_law_record" = true) (k21 : PySem.W.keepIn K (.ref f21) = true)
    {f22 : Addr} {od22 an22 : Option Addr} {sl22 : Array (Option Value)} {oc22 kV22 dc22 pm22 cd22 ct22 : Value}
        (a22 : PySem.W.nsIn K mainGlobals "_law_depth" = some (some (.ref f22))) (l22 : K.lookup f22 = some ⟨oc22, od22, .func (PySem.W.fnOf "_law_depth" "_law_depth" (defArgs st_l_depth) (defBody st_l_depth) (defScope st_l_depth) .none kV22 dc22 pm22 an22 cd22 ct22), sl22⟩) (c22 : PySem.W.codeIn K cd22 "_law_depth" = true) (k22 : PySem.W.keepIn K (.ref f22) = true)
    {f23 : Addr} {od23 an23 : Option Addr} {sl23 : Array (Option Value)} {oc23 kV23 dc23 pm23 cd23 ct23 : Value}
        (a23 : PySem.W.nsIn K mainGlobals "_law_free_way" = some (some (.ref f23))) (l23 : K.lookup f23 = some ⟨oc23, od23, .func (PySem.W.fnOf "_law_free_way" "_law_free_way" (defArgs st_l_free_way) (defBody st_l_free_way) (defScope st_l_free_way) .none kV23 dc23 pm23 an23 cd23 ct23), sl23⟩) (c23 : PySem.W.codeIn K cd23 "_law_free_way" = true) (k23 : PySem.W.keepIn K (.ref f23) = true)
    {f24 : Addr} {od24 an24 : Option Addr} {sl24 : Array (Option Value)} {oc24 kV24 dc24 pm24 cd24 ct24 : Value}
        (a24 : PySem.W.nsIn K mainGlobals "_law_ways" = some (some (.ref f24))) (l24 : K.lookup f24 = some ⟨oc24, od24, .func (PySem.W.fnOf "_law_ways" "_law_ways" (defArgs st_l_ways) (defBody st_l_ways) (defScope st_l_ways) .none kV24 dc24 pm24 an24 cd24 ct24), sl24⟩) (c24 : PySem.W.codeIn K cd24 "_law_ways" = true) (k24 : PySem.W.keepIn K (.ref f24) = true)
    {f25 : Addr} {od25 an25 : Option Addr} {sl25 : Array (Option Value)} {oc25 kV25 dc25 pm25 cd25 ct25 : Value}
        (a25 : PySem.W.nsIn K mainGlobals "_law_sides" = some (some (.ref f25))) (l25 : K.lookup f25 = some ⟨oc25, od25, .func (PySem.W.fnOf "_law_sides" "_law_sides" (defArgs st_l_sides) (defBody st_l_sides) (defScope st_l_sides) .none kV25 dc25 pm25 an25 cd25 ct25), sl25⟩) (c25 : PySem.W.codeIn K cd25 "_law_sides" = true) (k25 : PySem.W.keepIn K (.ref f25) = true)
    {f26 : Addr} {od26 an26 : Option Addr} {sl26 : Array (Option Value)} {oc26 kV26 dc26 pm26 cd26 ct26 : Value}
        (a26 : PySem.W.nsIn K mainGlobals "_law_strands_right" = some (some (.ref f26))) (l26 : K.lookup f26 = some ⟨oc26, od26, .func (PySem.W.fnOf "_law_strands_right" "_law_strands_right" (defArgs st_l_strands_right) (defBody st_l_strands_right) (defScope st_l_strands_right) .none kV26 dc26 pm26 an26 cd26 ct26), sl26⟩) (c26 : PySem.W.codeIn K cd26 "_law_strands_right" = true) (k26 : PySem.W.keepIn K (.ref f26) = true)
    {f27 : Addr} {od27 an27 : Option Addr} {sl27 : Array (Option Value)} {oc27 kV27 dc27 pm27 cd27 ct27 : Value}
        (a27 : PySem.W.nsIn K mainGlobals "law" = some (some (.ref f27))) (l27 : K.lookup f27 = some ⟨oc27, od27, .func (PySem.W.fnOf "law" "law" (defArgs st_law) (defBody st_law) (defScope st_law) .none kV27 dc27 pm27 an27 cd27 ct27), sl27⟩) (c27 : PySem.W.codeIn K cd27 "law" = true) (k27 : PySem.W.keepIn K (.ref f27) = true)
        (z_isinstance : PySem.W.nsIn K mainGlobals "isinstance" = some none)
        (z_int : PySem.W.nsIn K mainGlobals "int" = some none)
        (z_bool : PySem.W.nsIn K mainGlobals "bool" = some none)
        (z_min : PySem.W.nsIn K mainGlobals "min" = some none)
        (z_max : PySem.W.nsIn K mainGlobals "max" = some none)
        (z_list : PySem.W.nsIn K mainGlobals "list" = some none)
        (z_all : PySem.W.nsIn K mainGlobals "all" = some none)
        (z_len : PySem.W.nsIn K mainGlobals "len" = some none)
        (z_tuple : PySem.W.nsIn K mainGlobals "tuple" = some none)
        (z_range : PySem.W.nsIn K mainGlobals "range" = some none)
        (z_enumerate : PySem.W.nsIn K mainGlobals "enumerate" = some none)
        (z_reversed : PySem.W.nsIn K mainGlobals "reversed" = some none)
        {tk_MOST_LAYERS : Tok} (y_MOST_LAYERS : PySem.W.nsIn K mainGlobals "MOST_LAYERS" = some (some (.int (6) tk_MOST_LAYERS))) :
    ∃ fd : FuncData, (∀ (s : Shared) (v : Value), BindsTo s fd ⟨[v], []⟩ [("script", v)]) ∧ ∀ base : Heap, K.In base → base.Ns mainGlobals mg → FnOk l.prog w K mg base CX0 7 fa fd ["script"] (spG K mg 1 f_law) := by
  have e := hfa.symm.trans (PySem.W.mg_of X G a27)
  cases e
  exact ⟨_, fun s v => .of_eq rfl, fun base _ _ => ok_law (mkTx X G a0 l0 c0 k0 a1 l1 c1 k1 a2 l2 c2 k2 a3 l3 c3 k3 a4 l4 c4 k4 a5 l5 c5 k5 a6 l6 c6 k6 a7 l7 c7 k7 a8 l8 c8 k8 a9 l9 c9 k9 a10 l10 c10 k10 a11 l11 c11 k11 a12 l12 c12 k12 a13 l13 c13 k13 a14 l14 c14 k14 a15 l15 c15 k15 a16 l16 c16 k16 a17 l17 c17 k17 a18 l18 c18 k18 a19 l19 c19 k19 a20 l20 c20 k20 a21 l21 c21 k21 a22 l22 c22 k22 a23 l23 c23 k23 a24 l24 c24 k24 a25 l25 c25 k25 a26 l26 c26 k26 a27 l27 c27 k27 z_isinstance z_int z_bool z_min z_max z_list z_all z_len z_tuple z_range z_enumerate z_reversed y_MOST_LAYERS)⟩
end
end K59
end T_K59

section T_K59M
set_option linter.all false
set_option maxRecDepth 100000
/-! K59M: ways walked, plain. -/
namespace K59
open PySem Sim FamA

def ne3 (t : T3) : Bool := !(t.2.1 == t.2.2)
def tieOf (r : List T3) (m : Int) : Option T3 := r.find? fun t => t.1 == m && ne3 t
def on (t : T3) (p : Int) : Bool := p == t.2.1 || p == t.2.2
/-- by the dict: each moment once -/
def go (r : List T3) (used : List Int) (p : Int) : List Int → Option Int
  | [] => some p
  | m :: ms => if m ∈ used then none else match tieOf r m with
    | none => none
    | some t => if on t p then go r (m :: used) (t.2.1 + t.2.2 - p) ms else none
/-- by the law -/
def goD (r : List T3) (p : Int) : List Int → Option Int
  | [] => some p
  | m :: ms => match tieOf r m with
    | none => none
    | some t => if on t p then goD r (t.2.1 + t.2.2 - p) ms else none
theorem go_eq (r : List T3) : ∀ (ms : List Int) (used : List Int) (p : Int), go r used p ms = if ms.Nodup ∧ (∀ m ∈ ms, m ∉ used) then goD r p ms else none
  | [], used, p => by
    rw [if_pos ⟨List.nodup_nil, fun _ h => by cases h⟩]
    rfl
  | m :: ms, used, p => by
    unfold go goD
    by_cases c : m ∈ used
    · rw [if_pos c, if_neg fun h => h.2 m List.mem_cons_self c]
    · rw [if_neg c]
      cases e : tieOf r m with
      | none => simp
      | some t =>
        simp only
        by_cases o : on t p = true
        · rw [if_pos o, if_pos o, go_eq r ms (m :: used)]
          have : (ms.Nodup ∧ ∀ x ∈ ms, x ∉ m :: used) ↔ ((m :: ms).Nodup ∧ ∀ x ∈ m :: ms, x ∉ used) := by
            constructor
            · rintro ⟨h1, h2⟩
              refine ⟨List.nodup_cons.mpr ⟨fun h => h2 m h List.mem_cons_self, h1⟩, fun x hx => ?_⟩
              rcases List.mem_cons.mp hx with rfl | hx
              · exact c
              · exact fun z => h2 x hx (List.mem_cons_of_mem _ z)
            · rintro ⟨h1, h2⟩
              obtain ⟨h3, h4⟩ := List.nodup_cons.mp h1
              refine ⟨h4, fun x hx z => ?_⟩
              rcases List.mem_cons.mp z with rfl | z
              · exact h3 hx
              · exact h2 x (List.mem_cons_of_mem _ hx) z
          simp only [this]
        · rw [if_neg o, if_neg o]
          simp
theorem goD_cons (r : List T3) (p m : Int) (ms : List Int) : goD r p (m :: ms) = match tieOf r m with
    | none => none
    | some t => if on t p then goD r (t.2.1 + t.2.2 - p) ms else none := rfl
theorem goD_app (r : List T3) : ∀ (a b : List Int) (p q : Int), goD r p a = some q → goD r p (a ++ b) = goD r q b
  | [], b, p, q, h => by cases h; rfl
  | m :: a, b, p, q, h => by
    rw [List.cons_append]
    rw [goD_cons] at h ⊢
    cases e : tieOf r m with
    | none => rw [e] at h; cases h
    | some t =>
      rw [e] at h
      simp only at h ⊢
      by_cases o : on t p = true
      · rw [if_pos o] at h ⊢
        exact goD_app r a b _ q h
      · rw [if_neg o] at h; cases h
theorem on_back {t : T3} {p : Int} (h : on t p = true) : on t (t.2.1 + t.2.2 - p) = true := by
  unfold on at h ⊢
  rw [Bool.or_eq_true, beq_iff_eq, beq_iff_eq] at h ⊢
  omega
/-- back by the same moments -/
theorem goD_rev (r : List T3) : ∀ (a : List Int) (p q : Int), goD r p a = some q → goD r q a.reverse = some p
  | [], p, q, h => by cases h; rfl
  | m :: a, p, q, h => by
    unfold goD at h
    cases e : tieOf r m with
    | none => rw [e] at h; cases h
    | some t =>
      rw [e] at h
      simp only at h
      by_cases o : on t p = true
      · rw [if_pos o] at h
        rw [List.reverse_cons, goD_app r a.reverse [m] q _ (goD_rev r a _ q h)]
        unfold goD
        rw [e]
        simp only
        rw [if_pos (on_back o)]
        unfold goD
        congr 1
        omega
      · rw [if_neg o] at h; cases h
/-- what way_right tells -/
def right (r : List T3) (a b : Int) (ms : List Int) : Bool := match go r [] a ms with
  | some p => p == b
  | none => false
theorem right_eq (r : List T3) (a b : Int) (ms : List Int) : right r a b ms = if ms.Nodup then (match goD r a ms with | some p => p == b | none => false) else false := by
  unfold right
  rw [go_eq]
  by_cases c : ms.Nodup
  · rw [if_pos ⟨c, fun _ _ h => by cases h⟩, if_pos c]
  · rw [if_neg fun h => c h.1, if_neg c]
/-- the ties by which one may go on, as the law lists them -/
theorem near_one {r : List T3} (h : r.Pairwise fun s t => s.1 < t.1) (m p : Int) : (r.filter fun t => t.1 == m && (ne3 t && on t p)) = match tieOf r m with
    | some t => if on t p then [t] else []
    | none => [] := by
  induction r with
  | nil => rfl
  | cons u r ih =>
    obtain ⟨h1, h2⟩ := List.pairwise_cons.mp h
    have ih := ih h2
    unfold tieOf at ih ⊢
    rw [List.filter_cons, List.find?_cons]
    by_cases c : u.1 = m
    · have hr : (r.filter fun t => t.1 == m && (ne3 t && on t p)) = [] := by
        rw [List.filter_eq_nil_iff]
        intro t ht z
        have := h1 t ht
        rw [Bool.and_eq_true, beq_iff_eq] at z
        omega
      have hn : (r.find? fun t => t.1 == m && ne3 t) = none := by
        rw [List.find?_eq_none]
        intro t ht z
        have := h1 t ht
        rw [Bool.and_eq_true, beq_iff_eq] at z
        omega
      rw [hr]
      have e : (u.1 == m) = true := by simp [c]
      rw [e, Bool.true_and, Bool.true_and]
      cases hne : ne3 u with
      | true =>
        simp only [Bool.true_and]
      | false =>
        simp [hn]
    · have e : (u.1 == m) = false := by simp [c]
      rw [e, Bool.false_and, Bool.false_and]
      simpa using ih
end K59
end T_K59M

section T_K59P
set_option linter.all false
set_option maxRecDepth 100000
set_option maxHeartbeats 4000000
namespace K59
open PySem Sim FamA

theorem ix3_0 (t : T3) : hIx (enc3 t) (.int 0) = .ok (.int t.1) := rfl
theorem ix3_1 (t : T3) : hIx (enc3 t) (.int 1) = .ok (.int t.2.1) := rfl
theorem ix3_2 (t : T3) : hIx (enc3 t) (.int 2) = .ok (.int t.2.2) := rfl
/-- a tie in the dict -/
def dE (t : T3) : Dt × Dt := (.int t.1, .tuple [.int t.2.1, .int t.2.2])
def encD (l : List T3) : Dt := .dict (l.map dE)
theorem dGet_enc (m : Int) : ∀ l : List T3, dGet (l.map dE) (.inl m) = (l.find? fun t => t.1 == m).map fun t => (dE t).2
  | [] => rfl
  | t :: l => by
    have ih := dGet_enc m l
    unfold dGet at ih ⊢
    rw [List.map_cons, List.find?_cons, List.find?_cons]
    have e : isK (.inl m) (dE t).1 = (t.1 == m) := by
      show decide (t.1 = m) = (t.1 == m)
      by_cases c : t.1 = m <;> simp [c]
    rw [e]
    cases (t.1 == m)
    · exact ih
    · rfl
theorem dPut_enc (m : Int) (v : Dt) (l : List T3) (h : ∀ t ∈ l, t.1 ≠ m) : dPut (l.map dE) (.inl m) v = l.map dE ++ [(.int m, v)] := by
  unfold dPut
  rw [if_neg]
  · rfl
  · intro z
    obtain ⟨x, hx, e⟩ := List.any_eq_true.mp z
    obtain ⟨t, ht, rfl⟩ := List.mem_map.mp hx
    exact h t ht (of_decide_eq_true e)
theorem dDrop_enc (m : Int) : ∀ l : List T3, dDrop (l.map dE) (.inl m) = (l.filter fun t => !(t.1 == m)).map dE
  | [] => rfl
  | t :: l => by
    have ih := dDrop_enc m l
    unfold dDrop at ih ⊢
    rw [List.map_cons, List.filter_cons, List.filter_cons, ih]
    have e : isK (.inl m) (dE t).1 = (t.1 == m) := by
      show decide (t.1 = m) = (t.1 == m)
      by_cases c : t.1 = m <;> simp [c]
    rw [e]
    cases (t.1 == m) <;> rfl
/-- what is left in the dict -/
def rem (r : List T3) (used : List Int) : List T3 := r.filter fun t => ne3 t && !decide (t.1 ∈ used)
theorem rem_find (m : Int) (used : List Int) : ∀ r : List T3, ((rem r used).find? fun t => t.1 == m) = if m ∈ used then none else tieOf r m
  | [] => by simp [rem, tieOf]
  | t :: r => by
    have ih := rem_find m used r
    unfold rem tieOf at ih ⊢
    rw [List.filter_cons, List.find?_cons]
    by_cases c : t.1 = m
    · by_cases u : m ∈ used
      · rw [if_pos u] at ih ⊢
        rw [c]
        simp only [u, decide_true, Bool.not_true, Bool.and_false, Bool.false_eq_true, if_false]
        exact ih
      · rw [if_neg u] at ih ⊢
        cases hn : ne3 t with
        | true =>
          rw [c]
          simp [u, List.find?_cons, c]
        | false =>
          simp only [Bool.false_and, Bool.and_false, Bool.false_eq_true, if_false]
          exact ih
    · have e : (t.1 == m) = false := by simp [c]
      rw [e, Bool.false_and]
      by_cases k : (ne3 t && !decide (t.1 ∈ used)) = true
      · rw [if_pos k, List.find?_cons, e]
        exact ih
      · rw [if_neg k]
        exact ih
theorem rem_cons (r : List T3) (m : Int) (used : List Int) : (rem r used).filter (fun t => !(t.1 == m)) = rem r (m :: used) := by
  unfold rem
  rw [List.filter_filter]
  refine List.filter_congr fun t _ => ?_
  by_cases c : t.1 = m
  · simp [c]
  · simp [c]
theorem rem_nil (r : List T3) : rem r [] = r.filter ne3 := by
  unfold rem
  refine List.filter_congr fun t _ => ?_
  simp
/-- the dict is filled -/
theorem fill_ok {r : List T3} (ho : r.Pairwise fun s t => s.1 < t.1) (hl : r.length ≤ 60) (a b w x5 x6 x7 x8 : Dt) :
    ∃ y5 y6 y7, gFor (gSeq (gVar 0)) (tgT (tgCons (tgN 5) (tgCons (tgN 6) (tgCons (tgN 7) (tgNil))))) g_way_right_L1 [.list (r.map enc3), a, b, w, encD [], x5, x6, x7, x8]
      = .ok (.nx [.list (r.map enc3), a, b, w, encD (rem r []), y5, y6, y7, x8]) := by
  obtain ⟨ρ', hf, y5, y6, y7, rfl⟩ := forE_ix enc3 (h := tgT (tgCons (tgN 5) (tgCons (tgN 6) (tgCons (tgN 7) (tgNil))))) (b := g_way_right_L1) r
    (fun i ρ => ∃ y5 y6 y7, ρ = [.list (r.map enc3), a, b, w, encD ((r.take i).filter ne3), y5, y6, y7, x8])
    (ρ := [.list (r.map enc3), a, b, w, encD [], x5, x6, x7, x8]) ⟨_, _, _, rfl⟩ (by
      rintro i ρ hi ⟨y5, y6, y7, rfl⟩
      have es : r.take (i + 1) = r.take i ++ [r[i]] := by
        rw [List.take_add_one, List.getElem?_eq_getElem hi]
        rfl
      have hlt : ∀ t ∈ (r.take i).filter ne3, t.1 ≠ r[i].1 := fun t ht => by
        obtain ⟨j, hj, e⟩ := List.getElem_of_mem (List.mem_filter.mp ht).1
        rw [List.length_take] at hj
        rw [List.getElem_take] at e
        have := List.pairwise_iff_getElem.mp ho j i (by omega) hi (by omega)
        rw [← e]
        omega
      have lt : ((r.take i).filter ne3).length ≤ 60 := by
        refine Nat.le_trans (List.length_filter_le _ _) ?_
        rw [List.length_take]
        omega
      rw [es]
      generalize r.take i = q at *
      generalize r[i] = t at *
      refine ⟨_, _, rfl, .inl ?_, .int t.1, .int t.2.1, .int t.2.2, rfl⟩
      have ef : (q ++ [t]).filter ne3 = if ne3 t then q.filter ne3 ++ [t] else q.filter ne3 := by
        rw [List.filter_append]
        cases hn : ne3 t <;> simp [hn]
      rw [ef]
      unfold g_way_right_L1
      have hne : gTest (gOp hNe (gVar 6) (gVar 7)) [.list (r.map enc3), a, b, w, encD (q.filter ne3), .int t.1, .int t.2.1, .int t.2.2, x8] = .ok (ne3 t) := by
        simp only [bnd_ok, gVar_def, gC_def, gOp_def, gUn_def, gNil_def, gCons_def, gIf_def, gTest_def, gNot_def, gAnd_def, gOr_def, gAndV_def, gOrV_def, gNotV_def, gCB_def, asB_b, hAdd_i, hSub_i, hLt_i, hLe_i, hGt_i, hGe_i, hMul_r, hMul_l, hMod_i, hDiv_s, hBand_i, hShr_i, hPow_10_18, hPow_10_27, hPow_10_28, hPow_10_29, hPow_10_30, hEq_i, hNe_i, hLen_l, hLen_t, hMin2_i, hMax2_i, hMin3_i, hInt1_b, hInt1_i, hBits_i, hListOf_l, hListOf_t, hTupOf_l, hTupOf_t, gSeqS_def, gSet_def, gRet_def, gIfS_def, gNext_def, gTup_def, gLst_def, List.getElem?_cons_zero, List.getElem?_cons_succ, List.set_cons_zero, List.set_cons_succ, List.length_cons, List.length_nil, Nat.zero_add, Nat.reduceAdd, Nat.reduceLeDiff, Nat.reduceSub, Nat.reduceMul, if_true, if_false, Bool.false_eq_true, List.replicate_succ, List.replicate_zero, List.cons_append, List.nil_append, tgN, tgT, tgCons, tgNil, Int.reducePow, Int.reduceAdd, Int.reduceSub, Int.reduceMul, decide_true, decide_false, Bool.not_true, Bool.not_false, gChain_def, hIsa_int, hIsa_intb, hIsa_list, hIsa_tuple, gDrop_def]
        rfl
      cases hn : ne3 t with
      | true =>
        rw [hn] at hne
        refine (if_t hne).trans ?_
        have hput := dPut_enc t.1 (.tuple [.int t.2.1, .int t.2.2]) (q.filter ne3) hlt
        have e1 : gTup (gCons (gVar 6) (gCons (gVar 7) (gNil))) [.list (r.map enc3), a, b, w, encD (q.filter ne3), .int t.1, .int t.2.1, .int t.2.2, x8] = .ok (.tuple [.int t.2.1, .int t.2.2]) := by
          exact gTup_ok (xs := [.int t.2.1, .int t.2.2]) (by rfl) (by simp)
        unfold gDPut
        rw [e1, bnd_ok]
        have e2 : dAt [.list (r.map enc3), a, b, w, encD (q.filter ne3), .int t.1, .int t.2.1, .int t.2.2, x8] 4 = some ((q.filter ne3).map dE) := rfl
        have e3 : gVar 5 [.list (r.map enc3), a, b, w, encD (q.filter ne3), .int t.1, .int t.2.1, .int t.2.2, x8] = .ok (.int t.1) := rfl
        have e4 : keyOf (.int t.1) = some (.inl t.1) := rfl
        simp only [e2, e3, bnd_ok, e4, hput, List.length_map]
        rw [if_pos (by omega)]
        have e5 : (q.filter ne3).map dE ++ [(PyData.int t.1, PyData.tuple [.int t.2.1, .int t.2.2])] = (q.filter ne3 ++ [t]).map dE := by rw [List.map_append]; rfl
        rw [e5]
        rfl
      | false =>
        rw [hn] at hne
        exact (if_f hne).trans rfl)
  rw [List.take_length, ← rem_nil] at hf
  exact ⟨y5, y6, y7, for_ok (ds := r.map enc3) rfl hf⟩
theorem on_mem (t : T3) (p : Int) : decide (p ∈ [t.2.1, t.2.2]) = on t p := by
  unfold on
  by_cases c1 : p = t.2.1 <;> by_cases c2 : p = t.2.2 <;> simp [c1, c2]
theorem walk_ok (r : List T3) (R a b w : Dt) : ∀ (ms used : List Int) (p : Int) (x5 x6 x7 : Dt),
    match go r used p ms with
    | some q => ∃ d y5 y6 y7, forE (tgN 5) g_way_right_L2 (ms.map .int) [R, a, b, w, encD (rem r used), x5, x6, x7, .int p] = .ok (.nx [R, a, b, w, d, y5, y6, y7, .int q])
    | none => forE (tgN 5) g_way_right_L2 (ms.map .int) [R, a, b, w, encD (rem r used), x5, x6, x7, .int p] = .ok (.rt (.bool false))
  | [], used, p, x5, x6, x7 => ⟨_, _, _, _, rfl⟩
  | m :: ms, used, p, x5, x6, x7 => by
    have hg := dGet_enc m (rem r used)
    rw [rem_find] at hg
    have ed : ∀ x6 x7, dAt [R, a, b, w, encD (rem r used), .int m, x6, x7, .int p] 4 = some ((rem r used).map dE) := fun _ _ => rfl
    have e5 : ∀ D x6 x7 x8, gVar 5 [R, a, b, w, D, .int m, x6, x7, x8] = .ok (.int m) := fun _ _ _ _ => rfl
    have ek : keyOf (.int m) = some (.inl m) := rfl
    have din : gDIn true 4 (gVar 5) [R, a, b, w, encD (rem r used), .int m, x6, x7, .int p] = .ok (.bool (!(dGet ((rem r used).map dE) (.inl m)).isSome)) := by
      unfold gDIn
      simp only [e5, bnd_ok, ed, ek, if_true]
    rw [List.map_cons]
    unfold forE
    have et : tgN 5 (.int m) [R, a, b, w, encD (rem r used), x5, x6, x7, .int p] = .ok [R, a, b, w, encD (rem r used), .int m, x6, x7, .int p] := rfl
    rw [et]
    have none_case : dGet ((rem r used).map dE) (.inl m) = none → g_way_right_L2 [R, a, b, w, encD (rem r used), .int m, x6, x7, .int p] = .ok (.rt (.bool false)) := fun z => by
      unfold g_way_right_L2
      refine seq_rt ?_
      rw [if_t]
      · rfl
      · rw [gOr_def, gTest_def, din, z, bnd_ok]
        rfl
    unfold go
    by_cases c : m ∈ used
    · rw [if_pos c] at hg ⊢
      simp only [none_case hg, bnd_ok]
    · rw [if_neg c] at hg ⊢
      cases ht : tieOf r m with
      | none =>
        rw [ht] at hg
        simp only [none_case hg, bnd_ok]
      | some t =>
        rw [ht] at hg
        have hg : dGet ((rem r used).map dE) (.inl m) = some (.tuple [.int t.2.1, .int t.2.2]) := hg
        have dget : gDGet 4 (gVar 5) [R, a, b, w, encD (rem r used), .int m, x6, x7, .int p] = .ok (.tuple [.int t.2.1, .int t.2.2]) := by
          unfold gDGet
          simp only [e5, bnd_ok, ed, ek, hg]
        have hni : hNotIn (.int p) (.tuple [.int t.2.1, .int t.2.2]) = .ok (.bool (!on t p)) := by
          have := hNotIn_intsT p [t.2.1, t.2.2]
          rw [on_mem] at this
          exact this
        have test : gOr (gTest (gDIn true 4 (gVar 5))) (gTest (gOp hNotIn (gVar 8) (gDGet 4 (gVar 5)))) [R, a, b, w, encD (rem r used), .int m, x6, x7, .int p] = .ok (!on t p) := by
          rw [gOr_def, gTest_def, din, hg, bnd_ok, gTest_def, gOp_def, dget]
          show bnd (bnd (hNotIn (.int p) (.tuple [.int t.2.1, .int t.2.2])) asB) _ = _ <;> rw [hni] <;> rfl
        simp only
        cases ho : on t p with
        | false =>
          rw [ho] at test
          have : g_way_right_L2 [R, a, b, w, encD (rem r used), .int m, x6, x7, .int p] = .ok (.rt (.bool false)) := by
            unfold g_way_right_L2
            refine seq_rt ?_
            rw [if_t test]
            rfl
          rw [this]
          rfl
        | true =>
          rw [ho] at test
          have hb : g_way_right_L2 [R, a, b, w, encD (rem r used), .int m, x6, x7, .int p] = .ok (.nx [R, a, b, w, encD (rem r (m :: used)), .int m, .int t.2.1, .int t.2.2, .int (t.2.1 + t.2.2 - p)]) := by
            unfold g_way_right_L2
            refine seq_step (Eq.trans (if_f test) rfl) ?_
            refine seq_step (ρ' := [R, a, b, w, encD (rem r (m :: used)), .int m, .int t.2.1, .int t.2.2, .int p]) ?_ ?_
            · unfold gDPop
              have hd := dDrop_enc m (rem r used)
              rw [rem_cons] at hd
              simp only [e5, bnd_ok, ed, ek, hg, hd]
              rfl
            · refine (set_ok (d := .int (t.2.1 + t.2.2 - p)) ?_).trans rfl
              simp only [bnd_ok, gVar_def, gC_def, gOp_def, gUn_def, gNil_def, gCons_def, gIf_def, gTest_def, gNot_def, gAnd_def, gOr_def, gAndV_def, gOrV_def, gNotV_def, gCB_def, asB_b, hAdd_i, hSub_i, hLt_i, hLe_i, hGt_i, hGe_i, hMul_r, hMul_l, hMod_i, hDiv_s, hBand_i, hShr_i, hPow_10_18, hPow_10_27, hPow_10_28, hPow_10_29, hPow_10_30, hEq_i, hNe_i, hLen_l, hLen_t, hMin2_i, hMax2_i, hMin3_i, hInt1_b, hInt1_i, hBits_i, hListOf_l, hListOf_t, hTupOf_l, hTupOf_t, gSeqS_def, gSet_def, gRet_def, gIfS_def, gNext_def, gTup_def, gLst_def, List.getElem?_cons_zero, List.getElem?_cons_succ, List.set_cons_zero, List.set_cons_succ, List.length_cons, List.length_nil, Nat.zero_add, Nat.reduceAdd, Nat.reduceLeDiff, Nat.reduceSub, Nat.reduceMul, if_true, if_false, Bool.false_eq_true, List.replicate_succ, List.replicate_zero, List.cons_append, List.nil_append, tgN, tgT, tgCons, tgNil, Int.reducePow, Int.reduceAdd, Int.reduceSub, Int.reduceMul, decide_true, decide_false, Bool.not_true, Bool.not_false, gChain_def, hIsa_int, hIsa_intb, hIsa_list, hIsa_tuple, gDrop_def]
          have ih := walk_ok r R a b w ms (m :: used) (t.2.1 + t.2.2 - p) (.int m) (.int t.2.1) (.int t.2.2)
          rw [hb]
          simp only [bnd_ok, if_true]
          exact ih
theorem right_ok {r : List T3} (ho : r.Pairwise fun s t => s.1 < t.1) (hl : r.length ≤ 60) (a b : Int) (ms : List Int) : f_way_right [.list (r.map enc3), .int a, .int b, .list (ms.map .int)] = .ok (.bool (right r a b ms)) := by
  refine fnN_rt ?_
  show g_way_right [.list (r.map enc3), .int a, .int b, .list (ms.map .int), .none, .none, .none, .none, .none] = _
  unfold g_way_right
  refine seq_step (set_ok (d := encD []) rfl) ?_
  dsimp only [List.set]
  obtain ⟨y5, y6, y7, hfill⟩ := fill_ok ho hl (.int a) (.int b) (.list (ms.map .int)) .none .none .none .none
  refine seq_step hfill ?_
  refine seq_step (set_ok (d := .int a) rfl) ?_
  dsimp only [List.set]
  have hw := walk_ok r (.list (r.map enc3)) (.int a) (.int b) (.list (ms.map .int)) ms [] a y5 y6 y7
  unfold right
  cases e : go r [] a ms with
  | none =>
    rw [e] at hw
    exact seq_rt (for_ok (ds := ms.map .int) rfl hw)
  | some q =>
    rw [e] at hw
    obtain ⟨d, z5, z6, z7, hw⟩ := hw
    refine seq_step (for_ok (ds := ms.map .int) rfl hw) ?_
    simp only [bnd_ok, gVar_def, gC_def, gOp_def, gUn_def, gNil_def, gCons_def, gIf_def, gTest_def, gNot_def, gAnd_def, gOr_def, gAndV_def, gOrV_def, gNotV_def, gCB_def, asB_b, hAdd_i, hSub_i, hLt_i, hLe_i, hGt_i, hGe_i, hMul_r, hMul_l, hMod_i, hDiv_s, hBand_i, hShr_i, hPow_10_18, hPow_10_27, hPow_10_28, hPow_10_29, hPow_10_30, hEq_i, hNe_i, hLen_l, hLen_t, hMin2_i, hMax2_i, hMin3_i, hInt1_b, hInt1_i, hBits_i, hListOf_l, hListOf_t, hTupOf_l, hTupOf_t, gSeqS_def, gSet_def, gRet_def, gIfS_def, gNext_def, gTup_def, gLst_def, List.getElem?_cons_zero, List.getElem?_cons_succ, List.set_cons_zero, List.set_cons_succ, List.length_cons, List.length_nil, Nat.zero_add, Nat.reduceAdd, Nat.reduceLeDiff, Nat.reduceSub, Nat.reduceMul, if_true, if_false, Bool.false_eq_true, List.replicate_succ, List.replicate_zero, List.cons_append, List.nil_append, tgN, tgT, tgCons, tgNil, Int.reducePow, Int.reduceAdd, Int.reduceSub, Int.reduceMul, decide_true, decide_false, Bool.not_true, Bool.not_false, gChain_def, hIsa_int, hIsa_intb, hIsa_list, hIsa_tuple, gDrop_def]
end K59
end T_K59P

section T_K59B
set_option linter.all false
set_option maxRecDepth 100000
/-! K59B: ways found by walking from a place. Plain. -/
namespace K59
open PySem Sim FamA Lay

theorem tie_uniq {r : List T3} (ho : r.Pairwise fun s t => s.1 < t.1) {t : T3} (ht : t ∈ r) (hn : ne3 t = true) : tieOf r t.1 = some t := by
  induction r with
  | nil => cases ht
  | cons u r ih =>
    obtain ⟨h1, h2⟩ := List.pairwise_cons.mp ho
    unfold tieOf at ih ⊢
    rw [List.find?_cons]
    rcases List.mem_cons.mp ht with rfl | ht
    · rw [hn]
      simp
    · have := h1 t ht
      have e : (u.1 == t.1) = false := by rw [beq_eq_false_iff_ne]; omega
      rw [e, Bool.false_and]
      exact ih h2 ht
theorem mom_uniq {r : List T3} (ho : r.Pairwise fun s t => s.1 < t.1) {s t : T3} (hs : s ∈ r) (ht : t ∈ r) (e : s.1 = t.1) : s = t := by
  induction r with
  | nil => cases hs
  | cons u r ih =>
    obtain ⟨h1, h2⟩ := List.pairwise_cons.mp ho
    rcases List.mem_cons.mp hs with e1 | hs' <;> rcases List.mem_cons.mp ht with e2 | ht'
    · rw [e1, e2]
    · have := h1 t ht'; rw [e1] at e; omega
    · have := h1 s hs'; rw [e2] at e; omega
    · exact ih h2 hs' ht'
/-- places come to, each with its way -/
abbrev WL := List (Int × List Int)
def keys (L : WL) : List Int := L.map (·.1)
def wayOf (L : WL) (q : Int) : Option (List Int) := (L.find? fun p => p.1 == q).map (·.2)
def wst (q : Int) (t : T3) (L : WL) : WL := if on t q = true ∧ (t.2.1 + t.2.2 - q) ∉ keys L then L ++ [(t.2.1 + t.2.2 - q, (wayOf L q).getD [] ++ [t.1])] else L
theorem wayOf_mem {L : WL} {q : Int} : q ∈ keys L → ∃ w, wayOf L q = some w ∧ (q, w) ∈ L := by
  intro h
  obtain ⟨p, hp, e⟩ := List.mem_map.mp h
  unfold wayOf
  cases hf : L.find? fun p => p.1 == q with
  | none =>
    have := List.find?_eq_none.mp hf p hp
    simp [e] at this
  | some p' =>
    have h1 := List.find?_some hf
    have h2 := List.mem_of_find?_eq_some hf
    have e' : p'.1 = q := by simpa using h1
    exact ⟨p'.2, rfl, by rw [← e']; exact h2⟩
theorem wayOf_none {L : WL} {q : Int} (h : q ∉ keys L) : wayOf L q = none := by
  unfold wayOf
  cases hf : L.find? fun p => p.1 == q with
  | none => rfl
  | some p' =>
    have h1 := List.find?_some hf
    have h2 := List.mem_of_find?_eq_some hf
    have e' : p'.1 = q := by simpa using h1
    exact absurd (List.mem_map.mpr ⟨p', h2, e'⟩) h
structure Bf (n : Int) (r : List T3) (a : Int) (L : WL) : Prop where
  fr : From n r a (keys L)
  go : ∀ p ∈ L, goD r a p.2 = some p.1 ∧ p.2.Nodup
  mo : ∀ p ∈ L, ∀ m ∈ p.2, ∃ t ∈ r, t.1 = m ∧ t.2.1 ∈ keys L ∧ t.2.2 ∈ keys L
theorem Bf.one {n a : Int} {r : List T3} (a0 : 0 ≤ a) (an : a < n) : Bf n r a [(a, [])] := ⟨From.one a0 an, fun p hp => by rw [List.mem_singleton.mp hp]; exact ⟨rfl, List.nodup_nil⟩, fun p hp m hm => by rw [List.mem_singleton.mp hp] at hm; cases hm⟩
theorem keys_app (L M : WL) : keys (L ++ M) = keys L ++ keys M := List.map_append
theorem keys_wst (q : Int) (t : T3) (L : WL) : keys (wst q t L) = if on t q = true ∧ (t.2.1 + t.2.2 - q) ∉ keys L then keys L ++ [t.2.1 + t.2.2 - q] else keys L := by
  unfold wst
  split
  · rw [keys_app]; rfl
  · rfl
theorem Bf.wst {n a q : Int} {r : List T3} {t : T3} {L : WL} (h : Bf n r a L) (ho : r.Pairwise fun s t => s.1 < t.1) (ht : t ∈ r) (a0 : 0 ≤ t.2.1) (an : t.2.1 < n) (b0 : 0 ≤ t.2.2) (bn : t.2.2 < n) (hq : q ∈ keys L) : Bf n r a (wst q t L) := by
  unfold K59.wst
  split
  · rename_i hc
    obtain ⟨hon, hto⟩ := hc
    have hon' : q = t.2.1 ∨ q = t.2.2 := by
      unfold on at hon
      rw [Bool.or_eq_true, beq_iff_eq, beq_iff_eq] at hon
      exact hon
    obtain ⟨w, ew, hw⟩ := wayOf_mem hq
    have hn : ne3 t = true := by
      unfold ne3
      rw [Bool.not_eq_true', beq_eq_false_iff_ne]
      intro e
      apply hto
      have : t.2.1 + t.2.2 - q = q := by omega
      rw [this]
      exact hq
    have htie := tie_uniq ho ht hn
    have hE : E2 r q (t.2.1 + t.2.2 - q) := by
      rcases hon' with e | e
      · exact ⟨t, ht, .inl ⟨e.symm, by omega⟩⟩
      · exact ⟨t, ht, .inr ⟨by omega, e.symm⟩⟩
    have h1 := h.fr.st1 (a := q) (b := t.2.1 + t.2.2 - q) (by omega) (by omega) hE
    have e1 : st1 q (t.2.1 + t.2.2 - q) (keys L) = keys L ++ [t.2.1 + t.2.2 - q] := by
      unfold st1
      rw [if_pos ⟨hq, hto⟩]
    rw [e1] at h1
    have ek : keys (L ++ [(t.2.1 + t.2.2 - q, (wayOf L q).getD [] ++ [t.1])]) = keys L ++ [t.2.1 + t.2.2 - q] := by rw [keys_app]; rfl
    refine ⟨by rw [ek]; exact h1, fun p hp => ?_, fun p hp m hm => ?_⟩
    · rcases List.mem_append.mp hp with hp | hp
      · exact h.go p hp
      · rw [List.mem_singleton.mp hp, ew]
        obtain ⟨g1, g2⟩ := h.go _ hw
        refine ⟨?_, ?_⟩
        · show goD r a (w ++ [t.1]) = some (t.2.1 + t.2.2 - q)
          rw [goD_app r w [t.1] a q g1, goD_cons, htie]
          simp only
          rw [if_pos hon]
          rfl
        · show (w ++ [t.1]).Nodup
          rw [List.nodup_append]
          refine ⟨g2, List.nodup_cons.mpr ⟨by simp, List.nodup_nil⟩, fun x hx y hy => ?_⟩
          rw [List.mem_singleton.mp hy]
          intro e
          obtain ⟨t', ht', e', k1, k2⟩ := h.mo _ hw x hx
          have : t' = t := mom_uniq ho ht' ht (by rw [e', e])
          subst this
          apply hto
          rcases hon' with z | z
          · rw [show t'.2.1 + t'.2.2 - q = t'.2.2 by omega]; exact k2
          · rw [show t'.2.1 + t'.2.2 - q = t'.2.1 by omega]; exact k1
    · rw [ek]
      rcases List.mem_append.mp hp with hp | hp
      · obtain ⟨t', h2, h3, h4, h5⟩ := h.mo p hp m hm
        exact ⟨t', h2, h3, List.mem_append_left _ h4, List.mem_append_left _ h5⟩
      · rw [List.mem_singleton.mp hp, ew] at hm
        rcases List.mem_append.mp hm with hm | hm
        · obtain ⟨t', h2, h3, h4, h5⟩ := h.mo _ hw m hm
          exact ⟨t', h2, h3, List.mem_append_left _ h4, List.mem_append_left _ h5⟩
        · rw [List.mem_singleton.mp hm]
          refine ⟨t, ht, rfl, ?_, ?_⟩
          · rcases hon' with z | z
            · rw [← z]; exact List.mem_append_left _ hq
            · exact List.mem_append_right _ (List.mem_singleton.mpr (by omega))
          · rcases hon' with z | z
            · exact List.mem_append_right _ (List.mem_singleton.mpr (by omega))
            · rw [← z]; exact List.mem_append_left _ hq
  · exact h
/-- all ties at a place looked at -/
def wtn (q : Int) (r : List T3) (L : WL) : WL := r.foldl (fun L t => wst q t L) L
/-- L stands ahead of L' -/
def Ahead (L L' : WL) : Prop := ∃ M, L' = L ++ M
theorem Ahead.refl (L : WL) : Ahead L L := ⟨[], (List.append_nil L).symm⟩
theorem Ahead.trans {L M N : WL} (h : Ahead L M) (k : Ahead M N) : Ahead L N := by
  obtain ⟨x, rfl⟩ := h
  obtain ⟨y, rfl⟩ := k
  exact ⟨x ++ y, by rw [List.append_assoc]⟩
theorem Ahead.keys {L M : WL} (h : Ahead L M) {q : Int} (k : q ∈ keys L) : q ∈ keys M := by
  obtain ⟨x, rfl⟩ := h
  rw [keys_app]
  exact List.mem_append_left _ k
theorem ahead_wst (q : Int) (t : T3) (L : WL) : Ahead L (wst q t L) := by
  unfold wst
  split
  · exact ⟨_, rfl⟩
  · exact .refl L
/-- q's neighbours by the ties of s are there -/
def Nb (s : List T3) (q : Int) (L : WL) : Prop := ∀ t ∈ s, on t q = true → (t.2.1 + t.2.2 - q) ∈ keys L
theorem nb_wst {q : Int} {t : T3} {L : WL} (h : on t q = true) : (t.2.1 + t.2.2 - q) ∈ keys (wst q t L) := by
  rw [keys_wst]
  by_cases c : (t.2.1 + t.2.2 - q) ∈ keys L
  · rw [if_neg fun z => z.2 c]; exact c
  · rw [if_pos ⟨h, c⟩]; exact List.mem_append_right _ (List.mem_singleton.mpr rfl)
theorem clo_of {r : List T3} {L : WL} (h : ∀ q ∈ keys L, Nb r q L) : Clo r (keys L) := fun t ht => ⟨fun k => by
    have := h _ k t ht (by unfold on; simp)
    rwa [show t.2.1 + t.2.2 - t.2.1 = t.2.2 by omega] at this, fun k => by
    have := h _ k t ht (by unfold on; simp)
    rwa [show t.2.1 + t.2.2 - t.2.2 = t.2.1 by omega] at this⟩
end K59
end T_K59B

section T_K59A
set_option linter.all false
set_option maxRecDepth 100000
/-! K59A: ways that have no tie in common, and sides. Plain. -/
namespace K59
open PySem Sim FamA Lay

def rimC (side : List Int) (t : T3) : Bool := decide (t.2.1 ∈ side) != decide (t.2.2 ∈ side)
def rimM (r : List T3) (side : List Int) : List Int := (r.filter (rimC side)).map (·.1)
/-- ways from a to b by the ties of r, no tie in two of them -/
structure WOk (r : List T3) (a b : Int) (WS : List (List Int)) : Prop where
  go : ∀ w ∈ WS, goD r a w = some b
  nd : WS.flatten.Nodup
theorem WOk.right {r : List T3} {a b : Int} {WS : List (List Int)} (h : WOk r a b WS) : ∀ w ∈ WS, right r a b w = true := fun w hw => by
  have h1 : w.Nodup := (List.pairwise_flatten.mp h.nd).1 w hw
  rw [right_eq, if_pos h1, h.go w hw]
  simp
theorem on_or {t : T3} {p : Int} (h : on t p = true) : p = t.2.1 ∨ p = t.2.2 := by
  unfold on at h
  rw [Bool.or_eq_true, beq_iff_eq, beq_iff_eq] at h
  exact h
theorem tie_in {r : List T3} {m : Int} {t : T3} (h : tieOf r m = some t) : t ∈ r ∧ t.1 = m ∧ ne3 t = true := by
  unfold tieOf at h
  have h1 := List.find?_some h
  rw [Bool.and_eq_true, beq_iff_eq] at h1
  exact ⟨List.mem_of_find?_eq_some h, h1.1, h1.2⟩
/-- a way out of a side goes over its rim -/
theorem way_rim {r : List T3} {s : List Int} {b : Int} (hb : b ∉ s) : ∀ (w : List Int) (a : Int), a ∈ s → goD r a w = some b → ∃ m ∈ w, m ∈ rimM r s
  | [], a, ha, h => by cases h; exact absurd ha hb
  | m :: w, a, ha, h => by
    rw [goD_cons] at h
    cases e : tieOf r m with
    | none => rw [e] at h; cases h
    | some t =>
      rw [e] at h
      simp only at h
      by_cases o : on t a = true
      · rw [if_pos o] at h
        obtain ⟨h1, h2, _⟩ := tie_in e
        by_cases c : (t.2.1 + t.2.2 - a) ∈ s
        · obtain ⟨m', hm, hr⟩ := way_rim hb w _ c h
          exact ⟨m', List.mem_cons_of_mem _ hm, hr⟩
        · refine ⟨m, List.mem_cons_self, ?_⟩
          rw [← h2]
          refine List.mem_map.mpr ⟨t, List.mem_filter.mpr ⟨h1, ?_⟩, rfl⟩
          unfold rimC
          rcases on_or o with z | z
          · rw [show t.2.1 + t.2.2 - a = t.2.2 by omega] at c
            rw [z] at ha
            simp [ha, c]
          · rw [show t.2.1 + t.2.2 - a = t.2.1 by omega] at c
            rw [z] at ha
            simp [ha, c]
      · rw [if_neg o] at h; cases h
theorem pick_each {P : Int → Prop} : ∀ (WS : List (List Int)), WS.flatten.Nodup → (∀ w ∈ WS, ∃ m ∈ w, P m) → ∃ ms : List Int, ms.length = WS.length ∧ ms.Nodup ∧ ∀ m ∈ ms, m ∈ WS.flatten ∧ P m
  | [], _, _ => ⟨[], rfl, List.nodup_nil, fun m hm => nomatch hm⟩
  | w :: WS, hn, h => by
    rw [List.flatten_cons, List.nodup_append] at hn
    obtain ⟨_, h2, h3⟩ := hn
    obtain ⟨ms, e1, e2, e3⟩ := pick_each WS h2 fun w hw => h w (List.mem_cons_of_mem _ hw)
    obtain ⟨m, hm, hp⟩ := h w List.mem_cons_self
    refine ⟨m :: ms, by rw [List.length_cons, List.length_cons, e1], List.nodup_cons.mpr ⟨fun z => h3 m hm m (e3 m z).1 rfl, e2⟩, fun x hx => ?_⟩
    rw [List.flatten_cons]
    rcases List.mem_cons.mp hx with rfl | hx
    · exact ⟨List.mem_append_left _ hm, hp⟩
    · exact ⟨List.mem_append_right _ (e3 x hx).1, (e3 x hx).2⟩
/-- not more ways than ties over the rim -/
theorem ways_le {r : List T3} {a b : Int} {WS : List (List Int)} {s : List Int} (h : WOk r a b WS) (ha : a ∈ s) (hb : b ∉ s) : WS.length ≤ (rimM r s).length := by
  obtain ⟨ms, e1, e2, e3⟩ := pick_each (P := fun m => m ∈ rimM r s) WS h.nd fun w hw => way_rim hb w a ha (h.go w hw)
  rw [← e1]
  exact List.Nodup.length_le_of_subset e2 fun m hm => (e3 m hm).2
/-- what is gone by fewer ties is gone by more -/
theorem goD_sub {r s : List T3} (ho : r.Pairwise fun s t => s.1 < t.1) (hs : ∀ t ∈ s, t ∈ r) {b : Int} : ∀ (w : List Int) (a : Int), goD s a w = some b → goD r a w = some b
  | [], _, h => h
  | m :: w, a, h => by
    rw [goD_cons] at h ⊢
    cases e : tieOf s m with
    | none => rw [e] at h; cases h
    | some t =>
      rw [e] at h
      obtain ⟨h1, h2, h3⟩ := tie_in e
      have e' := tie_uniq ho (hs t h1) h3
      rw [h2] at e'
      rw [e']
      simp only at h ⊢
      by_cases o : on t a = true
      · rw [if_pos o] at h ⊢
        exact goD_sub ho hs w _ h
      · rw [if_neg o] at h; cases h
/-- a way's moments are those of ties -/
theorem goD_mem {s : List T3} {b : Int} : ∀ (w : List Int) (a : Int), goD s a w = some b → ∀ m ∈ w, ∃ t ∈ s, t.1 = m
  | [], _, _, m, hm => nomatch hm
  | m :: w, a, h, x, hx => by
    rw [goD_cons] at h
    cases e : tieOf s m with
    | none => rw [e] at h; cases h
    | some t =>
      rw [e] at h
      simp only at h
      by_cases o : on t a = true
      · rw [if_pos o] at h
        rcases List.mem_cons.mp hx with rfl | hx
        · exact ⟨t, (tie_in e).1, (tie_in e).2.1⟩
        · exact goD_mem w _ h x hx
      · rw [if_neg o] at h; cases h
theorem WOk.nil (r : List T3) (a b : Int) : WOk r a b [] := ⟨(fun w hw => nomatch hw), List.nodup_nil⟩
theorem WOk.snoc {r : List T3} {a b : Int} {WS : List (List Int)} {w : List Int} (h : WOk r a b WS) (hw : goD r a w = some b) (hn : w.Nodup) (hd : ∀ m ∈ w, m ∉ WS.flatten) : WOk r a b (WS ++ [w]) := by
  refine ⟨fun x hx => ?_, ?_⟩
  · rcases List.mem_append.mp hx with hx | hx
    · exact h.go x hx
    · rw [List.mem_singleton.mp hx]; exact hw
  · rw [List.flatten_append, List.nodup_append]
    refine ⟨h.nd, by simpa using hn, fun x hx y hy e => ?_⟩
    have hy : y ∈ w := by simpa using hy
    exact hd y hy (e ▸ hx)
end K59
end T_K59A

section T_K59W
set_option linter.all false
set_option maxRecDepth 100000
set_option maxHeartbeats 4000000
/-! K59W: the walks of way_in and _law_free_way. -/
namespace K59
open PySem Sim FamA Lay

def wE (p : Int × List Int) : Dt × Dt := (.int p.1, .list (p.2.map .int))
def encW (L : WL) : Dt := .dict (L.map wE)
theorem isK_wE (q : Int) (p : Int × List Int) : isK (.inl q) (wE p).1 = (p.1 == q) := by
  show decide (p.1 = q) = (p.1 == q)
  by_cases c : p.1 = q <;> simp [c]
theorem dGet_W (q : Int) : ∀ L : WL, dGet (L.map wE) (.inl q) = (wayOf L q).map fun w => PyData.list (w.map .int)
  | [] => rfl
  | p :: L => by
    have ih := dGet_W q L
    unfold dGet wayOf at ih ⊢
    rw [List.map_cons, List.find?_cons, List.find?_cons, isK_wE]
    cases (p.1 == q)
    · exact ih
    · rfl
theorem dPut_W (q : Int) (v : Dt) (L : WL) (h : q ∉ keys L) : dPut (L.map wE) (.inl q) v = L.map wE ++ [(.int q, v)] := by
  unfold dPut
  rw [if_neg]
  · rfl
  · intro z
    obtain ⟨x, hx, e⟩ := List.any_eq_true.mp z
    obtain ⟨p, hp, rfl⟩ := List.mem_map.mp hx
    rw [isK_wE, beq_iff_eq] at e
    exact h (List.mem_map.mpr ⟨p, hp, e⟩)
def wSt (R a b : Dt) (L : WL) (i : Nat) (t : T3) (x : Dt) : List Dt := [R, a, b, encW L, .list ((keys L).map .int), .int (i : Nat), .int t.1, .int t.2.1, .int t.2.2, x]
theorem wix {L : WL} {q : Int} {i : Nat} (R a b : Dt) (t : T3) (x : Dt) (h : hIx (.list ((keys L).map .int)) (.int (i : Nat)) = .ok (.int q)) : gOp hIx (gVar 4) (gVar 5) (wSt R a b L i t x) = .ok (.int q) := h
theorem won {L : WL} {q : Int} {i : Nat} (R a b : Dt) (t : T3) (x : Dt) (h : hIx (.list ((keys L).map .int)) (.int (i : Nat)) = .ok (.int q)) :
    gTest (gOp hIn (gOp hIx (gVar 4) (gVar 5)) (gTup (gCons (gVar 7) (gCons (gVar 8) (gNil))))) (wSt R a b L i t x) = .ok (on t q) := by
  have e1 : gTup (gCons (gVar 7) (gCons (gVar 8) (gNil))) (wSt R a b L i t x) = .ok (.tuple [.int t.2.1, .int t.2.2]) := gTup_ok (xs := [.int t.2.1, .int t.2.2]) (by rfl) (by simp)
  have e2 := hIn_intsT q [t.2.1, t.2.2]
  rw [on_mem] at e2
  have e2 : hIn (.int q) (.tuple [.int t.2.1, .int t.2.2]) = .ok (.bool (on t q)) := e2
  rw [gTest_def, gOp_def, wix R a b t x h, e1]
  show bnd (hIn (.int q) (.tuple [.int t.2.1, .int t.2.2])) asB = _
  rw [e2]
  rfl
theorem wto {L : WL} {q : Int} {i : Nat} (R a b : Dt) (t : T3) (x : Dt) (h : hIx (.list ((keys L).map .int)) (.int (i : Nat)) = .ok (.int q)) :
    gOp hSub (gOp hAdd (gVar 7) (gVar 8)) (gOp hIx (gVar 4) (gVar 5)) (wSt R a b L i t x) = .ok (.int (t.2.1 + t.2.2 - q)) := by
  have e : gOp hAdd (gVar 7) (gVar 8) (wSt R a b L i t x) = .ok (.int (t.2.1 + t.2.2)) := rfl
  rw [gOp_def, wix R a b t x h, e]
  rfl
theorem wdin {L : WL} {to : Int} {i : Nat} (g : Gd) (R a b : Dt) (t : T3) (x : Dt) (h : g (wSt R a b L i t x) = .ok (.int to)) :
    gTest (gDIn true 3 g) (wSt R a b L i t x) = .ok (decide (to ∉ keys L)) := by
  have hg := dGet_W to L
  have ek : ∀ z, keyOf (.int z) = some (.inl z) := fun _ => rfl
  have ed : dAt (wSt R a b L i t x) 3 = some (L.map wE) := rfl
  have din : gDIn true 3 g (wSt R a b L i t x) = .ok (.bool (!(dGet (L.map wE) (.inl to)).isSome)) := by
    unfold gDIn
    simp only [h, bnd_ok, ed, ek, if_true]
  rw [gTest_def, din, hg]
  by_cases c : to ∈ keys L
  · obtain ⟨w, ew, _⟩ := wayOf_mem c
    rw [ew, decide_eq_false (fun z => z c)]
    rfl
  · rw [wayOf_none c, decide_eq_true c]
    rfl
theorem wput {L : WL} {q to : Int} {i : Nat} (hq : q ∈ keys L) (hl : L.length ≤ 10) (hw : ∀ p ∈ L, p.2.length ≤ 1000) (R a b : Dt) (t : T3) (h : hIx (.list ((keys L).map .int)) (.int (i : Nat)) = .ok (.int q)) (c : to ∉ keys L) :
    gSeqS (gDPut 3 (gOp hCat (gDGet 3 (gOp hIx (gVar 4) (gVar 5))) (gLst (gCons (gVar 6) (gNil)))) (gVar 9)) (gApp 4 (gVar 9)) (wSt R a b L i t (.int to))
      = .ok (.nx (wSt R a b (L ++ [(to, (wayOf L q).getD [] ++ [t.1])]) i t (.int to))) := by
  obtain ⟨w, ew, hmem⟩ := wayOf_mem hq
  rw [ew]
  show _ = O.ok (Fl.nx (wSt R a b (L ++ [(to, w ++ [t.1])]) i t (.int to)))
  have hgq := dGet_W q L
  have ek : ∀ z, keyOf (.int z) = some (.inl z) := fun _ => rfl
  have ed : dAt (wSt R a b L i t (.int to)) 3 = some (L.map wE) := rfl
  have e9 : gVar 9 (wSt R a b L i t (.int to)) = .ok (.int to) := rfl
  have hlw : w.length ≤ 1000 := hw _ hmem
  have dget : gDGet 3 (gOp hIx (gVar 4) (gVar 5)) (wSt R a b L i t (.int to)) = .ok (.list (w.map .int)) := by
    unfold gDGet
    rw [wix R a b t (.int to) h]
    simp only [bnd_ok, ed, ek, hgq, ew, Option.map_some]
  have hc : hCat (.list (w.map .int)) (.list [.int t.1]) = .ok (.list ((w ++ [t.1]).map .int)) := hCat_map PyData.int w [t.1] (by rw [List.length_singleton]; omega)
  have hl1 : gLst (gCons (gVar 6) (gNil)) (wSt R a b L i t (.int to)) = .ok (.list [.int t.1]) := by
    unfold wSt
    rw [gLst_def, gCons_def, gVar_def, gNil_def]
    simp only [List.getElem?_cons_succ, List.getElem?_cons_zero, bnd_ok]
    rw [if_pos (by rw [List.length_singleton]; omega)]
  have hval : gOp hCat (gDGet 3 (gOp hIx (gVar 4) (gVar 5))) (gLst (gCons (gVar 6) (gNil))) (wSt R a b L i t (.int to)) = .ok (.list ((w ++ [t.1]).map .int)) := by
    rw [gOp_def, dget, bnd_ok, hl1, bnd_ok, hc]
  have hput := dPut_W to (.list ((w ++ [t.1]).map .int)) L c
  refine seq_step (ρ' := [R, a, b, encW (L ++ [(to, w ++ [t.1])]), .list ((keys L).map .int), .int (i : Nat), .int t.1, .int t.2.1, .int t.2.2, .int to]) ?_ ?_
  · unfold gDPut
    rw [hval, bnd_ok]
    simp only [e9, bnd_ok, ed, ek, hput, List.length_map]
    rw [if_pos (by omega)]
    have e5 : L.map wE ++ [(PyData.int to, PyData.list ((w ++ [t.1]).map .int))] = (L ++ [(to, w ++ [t.1])]).map wE := by
      rw [show (L ++ [(to, w ++ [t.1])]).map wE = L.map wE ++ [wE (to, w ++ [t.1])] from List.map_append]
      rfl
    rw [e5]
    rfl
  · have hk : (keys L).length ≤ 10 := by unfold keys; rw [List.length_map]; exact hl
    unfold wSt
    rw [gApp_l (ds := (keys L).map .int) (d := .int to) rfl rfl (by rw [List.length_map]; omega), keys_app, List.map_append]
    rfl
theorem wst_no {q : Int} {t : T3} {L : WL} (h : ¬ (on t q = true ∧ (t.2.1 + t.2.2 - q) ∉ keys L)) : wst q t L = L := if_neg h
theorem wst_yes {q : Int} {t : T3} {L : WL} (h : on t q = true ∧ (t.2.1 + t.2.2 - q) ∉ keys L) : wst q t L = L ++ [(t.2.1 + t.2.2 - q, (wayOf L q).getD [] ++ [t.1])] := if_pos h
theorem in1_ok {L : WL} {q : Int} {i : Nat} (hq : q ∈ keys L) (hl : L.length ≤ 10) (hw : ∀ p ∈ L, p.2.length ≤ 1000) (R a b : Dt) (t : T3) (x : Dt) (h : hIx (.list ((keys L).map .int)) (.int (i : Nat)) = .ok (.int q)) :
    ∃ y, g_way_in_L1 (wSt R a b L i t x) = .ok (.nx (wSt R a b (wst q t L) i t y)) := by
  unfold g_way_in_L1
  have h1 := won R a b t x h
  cases hon : on t q with
  | false =>
    rw [hon] at h1
    rw [wst_no fun z => by rw [hon] at z; exact Bool.false_ne_true z.1]
    exact ⟨x, (if_f h1).trans rfl⟩
  | true =>
    rw [hon] at h1
    refine ⟨.int (t.2.1 + t.2.2 - q), (if_t h1).trans ?_⟩
    refine seq_step (ρ' := wSt R a b L i t (.int (t.2.1 + t.2.2 - q))) (set_ok (wto R a b t x h)) ?_
    have h2 := wdin (gVar 9) R a b t (.int (t.2.1 + t.2.2 - q)) (L := L) (i := i) rfl
    by_cases c : (t.2.1 + t.2.2 - q) ∈ keys L
    · rw [wst_no fun z => z.2 c]
      exact (if_f (by rw [h2]; simp [c])).trans rfl
    · rw [wst_yes ⟨hon, c⟩]
      exact (if_t (by rw [h2]; simp [c])).trans (wput hq hl hw R a b t h c)
theorem fw1_ok {L : WL} {q : Int} {i : Nat} (hq : q ∈ keys L) (hl : L.length ≤ 10) (hw : ∀ p ∈ L, p.2.length ≤ 1000) (R a b : Dt) (t : T3) (x : Dt) (h : hIx (.list ((keys L).map .int)) (.int (i : Nat)) = .ok (.int q)) :
    ∃ y, g_l_free_way_L1 (wSt R a b L i t x) = .ok (.nx (wSt R a b (wst q t L) i t y)) := by
  unfold g_l_free_way_L1
  have h1 := won R a b t x h
  have h2 := wdin _ R a b t x (wto R a b t x h)
  by_cases c : on t q = true ∧ (t.2.1 + t.2.2 - q) ∉ keys L
  · rw [wst_yes c]
    obtain ⟨c1, c2⟩ := c
    refine ⟨.int (t.2.1 + t.2.2 - q), (if_t (by rw [gAnd_def, h1, c1, bnd_ok, if_pos rfl, h2]; simp [c2])).trans ?_⟩
    refine seq_step (ρ' := wSt R a b L i t (.int (t.2.1 + t.2.2 - q))) (set_ok (wto R a b t x h)) ?_
    exact wput hq hl hw R a b t h c2
  · rw [wst_no c]
    refine ⟨x, (if_f ?_).trans rfl⟩
    rw [gAnd_def, h1, bnd_ok]
    cases c1 : on t q with
    | false => rfl
    | true =>
      rw [if_pos rfl, h2]
      have : (t.2.1 + t.2.2 - q) ∈ keys L := Classical.byContradiction fun z => c ⟨c1, z⟩
      simp [this]
theorem way_len {n a : Int} {r : List T3} {L : WL} (h : Bf n r a L) (hr : r.length ≤ 60) : ∀ p ∈ L, p.2.length ≤ 1000 := fun p hp => by
  have := List.Nodup.length_le_of_subset (h.go p hp).2 (l₂ := r.map (·.1)) fun m hm => by
    obtain ⟨t, ht, e, _⟩ := h.mo p hp m hm
    exact List.mem_map.mpr ⟨t, ht, e⟩
  rw [List.length_map] at this
  omega
theorem Bf.len {n a : Int} {r : List T3} {L : WL} (h : Bf n r a L) (n10 : n ≤ 10) : L.length ≤ 10 := by
  have := h.fr.len
  unfold keys at this
  rw [List.length_map] at this
  omega
/-- all ties looked at from one place -/
theorem turn_ok {n a b : Int} {r : List T3} (ho : r.Pairwise fun s t => s.1 < t.1) (hr : FamL.InN n r) (hl : r.length ≤ 60) (n10 : n ≤ 10) (body : Gs)
    (hb : ∀ {L : WL} {q : Int} {i : Nat} (hq : q ∈ keys L) (hl : L.length ≤ 10) (hw : ∀ p ∈ L, p.2.length ≤ 1000) (R a b : Dt) (t : T3) (x : Dt) (h : hIx (.list ((keys L).map .int)) (.int (i : Nat)) = .ok (.int q)), ∃ y, body (wSt R a b L i t x) = .ok (.nx (wSt R a b (wst q t L) i t y)))
    {L : WL} (hB : Bf n r a L) {i : Nat} (c : i < (keys L).length) (x6 x7 x8 x9 : Dt) :
    ∃ L' x6' x7' x8' x9', forE (tgT (tgCons (tgN 6) (tgCons (tgN 7) (tgCons (tgN 8) (tgNil))))) body (r.map enc3) [.list (r.map enc3), .int a, .int b, encW L, .list ((keys L).map .int), .int (i : Nat), x6, x7, x8, x9]
      = .ok (.nx [.list (r.map enc3), .int a, .int b, encW L', .list ((keys L').map .int), .int (i : Nat), x6', x7', x8', x9']) ∧ Bf n r a L' ∧ Ahead L L' ∧ Nb r (keys L)[i] L' := by
  have hqm := List.getElem_mem c
  obtain ⟨ρ', hf, x6', x7', x8', x9', L', rfl, hB', hA, hNb⟩ := forE_ix enc3 (h := tgT (tgCons (tgN 6) (tgCons (tgN 7) (tgCons (tgN 8) (tgNil))))) (b := body) r
    (fun i' ρ => ∃ (x6 x7 x8 x9 : Dt) (L' : WL), ρ = [.list (r.map enc3), .int a, .int b, encW L', .list ((keys L').map .int), .int (i : Nat), x6, x7, x8, x9] ∧ Bf n r a L' ∧ Ahead L L' ∧ Nb (r.take i') (keys L)[i] L')
    (ρ := [.list (r.map enc3), .int a, .int b, encW L, .list ((keys L).map .int), .int (i : Nat), x6, x7, x8, x9]) ⟨_, _, _, _, L, rfl, hB, Ahead.refl L, (fun t ht => by rw [List.take_zero] at ht; cases ht)⟩ (by
      rintro i' ρ hi' ⟨x6, x7, x8, x9, L', rfl, hB', hA, hNb⟩
      have hm := List.getElem_mem hi'
      have ht := hr r[i'] hm
      have es : r.take (i' + 1) = r.take i' ++ [r[i']] := by
        rw [List.take_add_one, List.getElem?_eq_getElem hi']
        rfl
      rw [es]
      generalize r[i'] = t at *
      obtain ⟨⟨t0, t1⟩, u0, u1⟩ := ht
      have hq' := hA.keys hqm
      have hix : hIx (.list ((keys L').map .int)) (.int (i : Nat)) = .ok (.int (keys L)[i]) := by
        obtain ⟨M, rfl⟩ := hA
        rw [hIx_ints (by omega) (by rw [keys_app, List.length_append]; omega)]
        simp only [Int.toNat_natCast, keys_app]
        rw [List.getElem_append_left c]
      obtain ⟨y9, hb⟩ := hb (L := L') (q := (keys L)[i]) hq' (hB'.len n10) (way_len hB' hl) (.list (r.map enc3)) (.int a) (.int b) t x9 hix
      refine ⟨_, _, rfl, .inl hb, .int t.1, .int t.2.1, .int t.2.2, y9, wst (keys L)[i] t L', rfl, hB'.wst ho hm t0 t1 u0 u1 hq', hA.trans (ahead_wst _ _ _), fun u hu hon => ?_⟩
      rcases List.mem_append.mp hu with hu | hu
      · exact (ahead_wst _ _ _).keys (hNb u hu hon)
      · rw [List.mem_singleton.mp hu] at hon ⊢
        exact nb_wst hon)
  rw [List.take_length] at hNb
  exact ⟨L', x6', x7', x8', x9', hf, hB', hA, hNb⟩
theorem nb_next {r : List T3} {L L' : WL} {i : Nat} (c : i < (keys L).length) (hA : Ahead L L') (hNb : Nb r (keys L)[i] L') (hN : ∀ j (hj : j < (keys L).length), j < i → Nb r (keys L)[j] L) :
    ∀ j (hj : j < (keys L').length), j < i + 1 → Nb r (keys L')[j] L' := fun j hj hji => by
  obtain ⟨M, rfl⟩ := hA
  have ekj : ∀ (hjl : j < (keys L).length), (keys (L ++ M))[j] = (keys L)[j] := fun hjl => by
    simp only [keys_app]
    rw [List.getElem_append_left hjl]
  by_cases cj : j = i
  · subst cj
    rw [ekj c]
    exact hNb
  · have hjl : j < (keys L).length := by omega
    rw [ekj hjl]
    exact fun t ht hon => (Ahead.keys ⟨M, rfl⟩ (hN j hjl (by omega) t ht hon))
theorem clo_at {r : List T3} {L : WL} {i : Nat} (c : (keys L).length ≤ i) (hN : ∀ j (hj : j < (keys L).length), j < i → Nb r (keys L)[j] L) : Clo r (keys L) := clo_of fun q hq => by
  obtain ⟨j, hj, e⟩ := List.getElem_of_mem hq
  rw [← e]
  exact hN j hj (by omega)
theorem new1_ok (R : Dt) (a : Int) (l : List Dt) : gDNew1 (gVar 1) (gLst (gNil)) (R :: .int a :: l) = .ok (encW [(a, [])]) := by
  unfold gDNew1
  rw [gVar_def]
  have e : gLst gNil (R :: .int a :: l) = .ok (.list []) := by rw [gLst_def, gNil_def, bnd_ok, if_pos (by simp)]
  simp only [List.getElem?_cons_succ, List.getElem?_cons_zero, bnd_ok, e]
  rfl
theorem way_in_ok {n a b : Int} {r : List T3} (ho : r.Pairwise fun s t => s.1 < t.1) (hr : FamL.InN n r) (hl : r.length ≤ 60) (n10 : n ≤ 10) (a0 : 0 ≤ a) (an : a < n) (hc : Conn r a b) :
    ∃ w, goD r a w = some b ∧ w.Nodup ∧ f_way_in [.list (r.map enc3), .int a, .int b] = .ok (FamL.encI w) := by
  have main : ∀ (fu i : Nat) (L : WL) (x6 x7 x8 x9 : Dt), fu + i = 20 → i ≤ (keys L).length → Bf n r a L → (∀ j (hj : j < (keys L).length), j < i → Nb r (keys L)[j] L) →
      ∃ (L' : WL) (i' : Nat) (y6 y7 y8 y9 : Dt), Bf n r a L' ∧ b ∈ keys L' ∧ gWhile g_way_in_T2 g_way_in_L2 fu [.list (r.map enc3), .int a, .int b, encW L, .list ((keys L).map .int), .int (i : Nat), x6, x7, x8, x9]
        = .ok (.nx [.list (r.map enc3), .int a, .int b, encW L', .list ((keys L').map .int), .int (i' : Nat), y6, y7, y8, y9]) := by
    intro fu
    induction fu with
    | zero =>
      intro i L x6 x7 x8 x9 e1 e2 hB _
      have := hB.len n10
      have : (keys L).length = L.length := List.length_map ..
      omega
    | succ fu ih =>
      intro i L x6 x7 x8 x9 e1 e2 hB hN
      have ht : g_way_in_T2 [.list (r.map enc3), .int a, .int b, encW L, .list ((keys L).map .int), .int (i : Nat), x6, x7, x8, x9] = .ok (decide (b ∉ keys L)) := by
        have hg := dGet_W b L
        have ek : ∀ z, keyOf (.int z) = some (.inl z) := fun _ => rfl
        have ed : dAt [.list (r.map enc3), .int a, .int b, encW L, .list ((keys L).map .int), .int (i : Nat), x6, x7, x8, x9] 3 = some (L.map wE) := rfl
        have e2 : gVar 2 [.list (r.map enc3), .int a, .int b, encW L, .list ((keys L).map .int), .int (i : Nat), x6, x7, x8, x9] = .ok (.int b) := rfl
        have din : gDIn true 3 (gVar 2) [.list (r.map enc3), .int a, .int b, encW L, .list ((keys L).map .int), .int (i : Nat), x6, x7, x8, x9] = .ok (.bool (!(dGet (L.map wE) (.inl b)).isSome)) := by
          unfold gDIn
          simp only [e2, bnd_ok, ed, ek, if_true]
        unfold g_way_in_T2
        rw [gTest_def, din, hg]
        by_cases c : b ∈ keys L
        · obtain ⟨w, ew, _⟩ := wayOf_mem c
          rw [ew, decide_eq_false (fun z => z c)]
          rfl
        · rw [wayOf_none c, decide_eq_true c]
          rfl
      by_cases c : b ∈ keys L
      · refine ⟨L, i, x6, x7, x8, x9, hB, c, ?_⟩
        exact while_f (by rw [ht]; simp [c]) (by omega)
      · have ci : i < (keys L).length := by
          refine Classical.byContradiction fun z => c ?_
          exact clo_all hB.fr (clo_at (by omega) hN) hc
        obtain ⟨L', x6', x7', x8', x9', hf, hB', hA, hNb⟩ := turn_ok ho hr hl n10 (b := b) g_way_in_L1 in1_ok hB ci x6 x7 x8 x9
        have hle : (keys L).length ≤ (keys L').length := by
          obtain ⟨M, rfl⟩ := hA
          rw [keys_app, List.length_append]
          omega
        obtain ⟨L2, i2, y6, y7, y8, y9, h1, h2, h3⟩ := ih (i + 1) L' x6' x7' x8' x9' (by omega) (by omega) hB' (nb_next ci hA hNb hN)
        refine ⟨L2, i2, y6, y7, y8, y9, h1, h2, ?_⟩
        rw [while_t (ρ' := [.list (r.map enc3), .int a, .int b, encW L', .list ((keys L').map .int), .int ((i + 1 : Nat)), x6', x7', x8', x9']) (by rw [ht]; simp [c]) ?_]
        · exact h3
        · unfold g_way_in_L2
          refine seq_step (for_ok (ds := r.map enc3) rfl hf) ?_
          rfl
  obtain ⟨L, i, x6, x7, x8, x9, hB, hb, hw⟩ := main 20 0 [(a, [])] .none .none .none .none (by omega) (Nat.zero_le _) (Bf.one a0 an) (fun j hj h => absurd h (Nat.not_lt_zero j))
  obtain ⟨w, ew, hm⟩ := wayOf_mem hb
  obtain ⟨g1, g2⟩ := hB.go _ hm
  refine ⟨w, g1, g2, fnN_rt ?_⟩
  show g_way_in [.list (r.map enc3), .int a, .int b, .none, .none, .none, .none, .none, .none, .none] = _
  unfold g_way_in
  refine seq_step (set_ok (d := encW [(a, [])]) (new1_ok _ _ _)) ?_
  dsimp only [List.set]
  refine seq_step (set_ok (d := .list ((keys [(a, [])]).map .int)) (by simp only [bnd_ok, gVar_def, gC_def, gOp_def, gUn_def, gNil_def, gCons_def, gIf_def, gTest_def, gNot_def, gAnd_def, gOr_def, gAndV_def, gOrV_def, gNotV_def, gCB_def, asB_b, hAdd_i, hSub_i, hLt_i, hLe_i, hGt_i, hGe_i, hMul_r, hMul_l, hMod_i, hDiv_s, hBand_i, hShr_i, hPow_10_18, hPow_10_27, hPow_10_28, hPow_10_29, hPow_10_30, hEq_i, hNe_i, hLen_l, hLen_t, hMin2_i, hMax2_i, hMin3_i, hInt1_b, hInt1_i, hBits_i, hListOf_l, hListOf_t, hTupOf_l, hTupOf_t, gSeqS_def, gSet_def, gRet_def, gIfS_def, gNext_def, gTup_def, gLst_def, List.getElem?_cons_zero, List.getElem?_cons_succ, List.set_cons_zero, List.set_cons_succ, List.length_cons, List.length_nil, Nat.zero_add, Nat.reduceAdd, Nat.reduceLeDiff, Nat.reduceSub, Nat.reduceMul, if_true, if_false, Bool.false_eq_true, List.replicate_succ, List.replicate_zero, List.cons_append, List.nil_append, tgN, tgT, tgCons, tgNil, Int.reducePow, Int.reduceAdd, Int.reduceSub, Int.reduceMul, decide_true, decide_false, Bool.not_true, Bool.not_false, gChain_def, hIsa_int, hIsa_intb, hIsa_list, hIsa_tuple, gDrop_def]; rfl)) ?_
  dsimp only [List.set]
  refine seq_step (set_ok (d := .int ((0 : Nat) : Int)) (by rfl)) ?_
  dsimp only [List.set]
  refine seq_step hw ?_
  refine ret_ok ?_
  unfold gDGet
  have ed : dAt [.list (r.map enc3), .int a, .int b, encW L, .list ((keys L).map .int), .int (i : Nat), x6, x7, x8, x9] 3 = some (L.map wE) := rfl
  have e2 : gVar 2 [.list (r.map enc3), .int a, .int b, encW L, .list ((keys L).map .int), .int (i : Nat), x6, x7, x8, x9] = .ok (.int b) := rfl
  have ek : keyOf (.int b) = some (.inl b) := rfl
  simp only [ed, e2, bnd_ok, ek, dGet_W, ew, Option.map_some]
  rfl
theorem free_way_ok {n a b : Int} {r : List T3} (ho : r.Pairwise fun s t => s.1 < t.1) (hr : FamL.InN n r) (hl : r.length ≤ 60) (n10 : n ≤ 10) (a0 : 0 ≤ a) (an : a < n) :
    ∃ L, Bf n r a L ∧ f_l_free_way [.list (r.map enc3), .int a, .int b] = .ok (((wayOf L b).map fun w => PyData.list (w.map .int)).getD .none) := by
  obtain ⟨ρ', hf, x5, x6, x7, x8, x9, L, rfl, hB, hN⟩ := forE_ix (fun (i : Nat) => PyData.int (0 + (i : Int))) (h := tgN 5) (b := g_l_free_way_L2) (List.range 10)
    (fun i ρ => ∃ (x5 x6 x7 x8 x9 : Dt) (L : WL), ρ = [.list (r.map enc3), .int a, .int b, encW L, .list ((keys L).map .int), x5, x6, x7, x8, x9] ∧ Bf n r a L ∧ ∀ j (hj : j < (keys L).length), j < i → Nb r (keys L)[j] L)
    (ρ := [.list (r.map enc3), .int a, .int b, encW [(a, [])], .list ((keys [(a, [])]).map .int), .none, .none, .none, .none, .none]) ⟨_, _, _, _, _, _, rfl, Bf.one a0 an, (fun j hj h => absurd h (Nat.not_lt_zero j))⟩ (by
      rintro i ρ hi ⟨x5, x6, x7, x8, x9, L, rfl, hB, hN⟩
      rw [List.length_range] at hi
      rw [List.getElem_range]
      have ez : (0 : Int) + (i : Int) = (i : Int) := by omega
      rw [ez]
      by_cases c : i < (keys L).length
      · obtain ⟨L', x6', x7', x8', x9', hf, hB', hA, hNb⟩ := turn_ok ho hr hl n10 (b := b) g_l_free_way_L1 fw1_ok hB c x6 x7 x8 x9
        refine ⟨_, _, rfl, .inl ?_, .int (i : Nat), x6', x7', x8', x9', L', rfl, hB', nb_next c hA hNb hN⟩
        unfold g_l_free_way_L2
        refine (if_t ?_).trans (for_ok (ds := r.map enc3) rfl hf)
        have e : decide ((i : Int) < ((keys L).length : Int)) = true := by rw [decide_eq_true_eq]; omega
        simp only [bnd_ok, gVar_def, gC_def, gOp_def, gUn_def, gNil_def, gCons_def, gIf_def, gTest_def, gNot_def, gAnd_def, gOr_def, gAndV_def, gOrV_def, gNotV_def, gCB_def, asB_b, hAdd_i, hSub_i, hLt_i, hLe_i, hGt_i, hGe_i, hMul_r, hMul_l, hMod_i, hDiv_s, hBand_i, hShr_i, hPow_10_18, hPow_10_27, hPow_10_28, hPow_10_29, hPow_10_30, hEq_i, hNe_i, hLen_l, hLen_t, hMin2_i, hMax2_i, hMin3_i, hInt1_b, hInt1_i, hBits_i, hListOf_l, hListOf_t, hTupOf_l, hTupOf_t, gSeqS_def, gSet_def, gRet_def, gIfS_def, gNext_def, gTup_def, gLst_def, List.getElem?_cons_zero, List.getElem?_cons_succ, List.set_cons_zero, List.set_cons_succ, List.length_cons, List.length_nil, Nat.zero_add, Nat.reduceAdd, Nat.reduceLeDiff, Nat.reduceSub, Nat.reduceMul, if_true, if_false, Bool.false_eq_true, List.replicate_succ, List.replicate_zero, List.cons_append, List.nil_append, tgN, tgT, tgCons, tgNil, Int.reducePow, Int.reduceAdd, Int.reduceSub, Int.reduceMul, decide_true, decide_false, Bool.not_true, Bool.not_false, gChain_def, hIsa_int, hIsa_intb, hIsa_list, hIsa_tuple, gDrop_def, List.length_map, e]
      · refine ⟨_, _, rfl, .inl ?_, .int (i : Nat), x6, x7, x8, x9, L, rfl, hB, fun j hj hji => hN j hj (by omega)⟩
        unfold g_l_free_way_L2
        have e : decide ((i : Int) < ((keys L).length : Int)) = false := by rw [decide_eq_false_iff_not]; omega
        exact (if_f (by simp only [bnd_ok, gVar_def, gC_def, gOp_def, gUn_def, gNil_def, gCons_def, gIf_def, gTest_def, gNot_def, gAnd_def, gOr_def, gAndV_def, gOrV_def, gNotV_def, gCB_def, asB_b, hAdd_i, hSub_i, hLt_i, hLe_i, hGt_i, hGe_i, hMul_r, hMul_l, hMod_i, hDiv_s, hBand_i, hShr_i, hPow_10_18, hPow_10_27, hPow_10_28, hPow_10_29, hPow_10_30, hEq_i, hNe_i, hLen_l, hLen_t, hMin2_i, hMax2_i, hMin3_i, hInt1_b, hInt1_i, hBits_i, hListOf_l, hListOf_t, hTupOf_l, hTupOf_t, gSeqS_def, gSet_def, gRet_def, gIfS_def, gNext_def, gTup_def, gLst_def, List.getElem?_cons_zero, List.getElem?_cons_succ, List.set_cons_zero, List.set_cons_succ, List.length_cons, List.length_nil, Nat.zero_add, Nat.reduceAdd, Nat.reduceLeDiff, Nat.reduceSub, Nat.reduceMul, if_true, if_false, Bool.false_eq_true, List.replicate_succ, List.replicate_zero, List.cons_append, List.nil_append, tgN, tgT, tgCons, tgNil, Int.reducePow, Int.reduceAdd, Int.reduceSub, Int.reduceMul, decide_true, decide_false, Bool.not_true, Bool.not_false, gChain_def, hIsa_int, hIsa_intb, hIsa_list, hIsa_tuple, gDrop_def, List.length_map, e])).trans rfl)
  refine ⟨L, hB, fnN_rt ?_⟩
  show g_l_free_way [.list (r.map enc3), .int a, .int b, .none, .none, .none, .none, .none, .none, .none] = _
  unfold g_l_free_way
  refine seq_step (set_ok (d := encW [(a, [])]) (new1_ok _ _ _)) ?_
  dsimp only [List.set]
  refine seq_step (set_ok (d := .list ((keys [(a, [])]).map .int)) (by simp only [bnd_ok, gVar_def, gC_def, gOp_def, gUn_def, gNil_def, gCons_def, gIf_def, gTest_def, gNot_def, gAnd_def, gOr_def, gAndV_def, gOrV_def, gNotV_def, gCB_def, asB_b, hAdd_i, hSub_i, hLt_i, hLe_i, hGt_i, hGe_i, hMul_r, hMul_l, hMod_i, hDiv_s, hBand_i, hShr_i, hPow_10_18, hPow_10_27, hPow_10_28, hPow_10_29, hPow_10_30, hEq_i, hNe_i, hLen_l, hLen_t, hMin2_i, hMax2_i, hMin3_i, hInt1_b, hInt1_i, hBits_i, hListOf_l, hListOf_t, hTupOf_l, hTupOf_t, gSeqS_def, gSet_def, gRet_def, gIfS_def, gNext_def, gTup_def, gLst_def, List.getElem?_cons_zero, List.getElem?_cons_succ, List.set_cons_zero, List.set_cons_succ, List.length_cons, List.length_nil, Nat.zero_add, Nat.reduceAdd, Nat.reduceLeDiff, Nat.reduceSub, Nat.reduceMul, if_true, if_false, Bool.false_eq_true, List.replicate_succ, List.replicate_zero, List.cons_append, List.nil_append, tgN, tgT, tgCons, tgNil, Int.reducePow, Int.reduceAdd, Int.reduceSub, Int.reduceMul, decide_true, decide_false, Bool.not_true, Bool.not_false, gChain_def, hIsa_int, hIsa_intb, hIsa_list, hIsa_tuple, gDrop_def]; rfl)) ?_
  dsimp only [List.set]
  refine seq_step (for_ok (ds := (List.range 10).map fun (i : Nat) => PyData.int (0 + (i : Int))) ?_ hf) ?_
  · rw [rng1_ok (show gCons (gC (.int (10))) gNil _ = .ok [.int 10] from rfl) (by omega) (by omega)]
    rfl
  · refine ret_ok ?_
    unfold gDGetN
    have ed : dAt [.list (r.map enc3), .int a, .int b, encW L, .list ((keys L).map .int), x5, x6, x7, x8, x9] 3 = some (L.map wE) := rfl
    have e2 : gVar 2 [.list (r.map enc3), .int a, .int b, encW L, .list ((keys L).map .int), x5, x6, x7, x8, x9] = .ok (.int b) := rfl
    have ek : keyOf (.int b) = some (.inl b) := rfl
    simp only [ed, e2, bnd_ok, ek, dGet_W]
end K59
end T_K59W

section T_K59S
set_option linter.all false
set_option maxRecDepth 100000
set_option maxHeartbeats 4000000
/-! K59S: judged. -/
namespace K59
open PySem Sim FamA Lay FamL

theorem whole_int (z : Int) : f_is_whole [.int z] = .ok (.bool true) := rfl
theorem place_ok (n z : Int) : f_is_place [.int n, .int z] = .ok (.bool (decide (0 ≤ z) && decide (z < n))) := by
  refine fnN_rt ?_
  show g_is_place [.int n, .int z] = _
  unfold g_is_place
  have e : gCallN 1 f_is_whole (gCons (gVar 1) (gNil)) [.int n, .int z] = .ok (.bool true) := callN_ok (ds := [.int z]) rfl rfl (whole_int z)
  simp only [bnd_ok, gVar_def, gC_def, gOp_def, gUn_def, gNil_def, gCons_def, gIf_def, gTest_def, gNot_def, gAnd_def, gOr_def, gAndV_def, gOrV_def, gNotV_def, gCB_def, asB_b, hAdd_i, hSub_i, hLt_i, hLe_i, hGt_i, hGe_i, hMul_r, hMul_l, hMod_i, hDiv_s, hBand_i, hShr_i, hPow_10_18, hPow_10_27, hPow_10_28, hPow_10_29, hPow_10_30, hEq_i, hNe_i, hLen_l, hLen_t, hMin2_i, hMax2_i, hMin3_i, hInt1_b, hInt1_i, hBits_i, hListOf_l, hListOf_t, hTupOf_l, hTupOf_t, gSeqS_def, gSet_def, gRet_def, gIfS_def, gNext_def, gTup_def, gLst_def, List.getElem?_cons_zero, List.getElem?_cons_succ, List.set_cons_zero, List.set_cons_succ, List.length_cons, List.length_nil, Nat.zero_add, Nat.reduceAdd, Nat.reduceLeDiff, Nat.reduceSub, Nat.reduceMul, if_true, if_false, Bool.false_eq_true, List.replicate_succ, List.replicate_zero, List.cons_append, List.nil_append, tgN, tgT, tgCons, tgNil, Int.reducePow, Int.reduceAdd, Int.reduceSub, Int.reduceMul, decide_true, decide_false, Bool.not_true, Bool.not_false, gChain_def, hIsa_int, hIsa_intb, hIsa_list, hIsa_tuple, gDrop_def, e]
  cases decide (0 ≤ z) <;> rfl
theorem map1 (l : List T3) : l.map (fun t => PyData.int t.1) = (l.map (·.1)).map PyData.int := by rw [List.map_map]; rfl
theorem pure3 : ∀ r : List T3, pureA (r.map enc3) = true
  | [] => rfl
  | t :: r => by
    rw [List.map_cons]
    unfold pureA
    rw [pure3 r]
    rfl
theorem rim_ok (r : List T3) (side : List Int) (hl : r.length ≤ 1000) : f_rim [.list (r.map enc3), .tuple (side.map .int)] = .ok (.list ((rimM r side).map .int)) := by
  refine fnL_rt ?_
  show g_rim [.list (r.map enc3), .tuple (side.map .int), .none, .none, .none] = _
  unfold g_rim
  have h := gLc_map enc3 (rimC side) (fun t => PyData.int t.1) (gi := gSeq (gVar 0)) (h := tgT (tgCons (tgN 2) (tgCons (tgN 3) (tgCons (tgN 4) tgNil)))) (gt := gTest (gOp hNe (gOp hIn (gVar 3) (gVar 1)) (gOp hIn (gVar 4) (gVar 1)))) (ge := gVar 2)
    (ρ := [.list (r.map enc3), .tuple (side.map .int), .none, .none, .none]) (xs := r) rfl (by omega) (fun t _ => ⟨_, rfl, by
      simp only [bnd_ok, gVar_def, gC_def, gOp_def, gUn_def, gNil_def, gCons_def, gIf_def, gTest_def, gNot_def, gAnd_def, gOr_def, gAndV_def, gOrV_def, gNotV_def, gCB_def, asB_b, hAdd_i, hSub_i, hLt_i, hLe_i, hGt_i, hGe_i, hMul_r, hMul_l, hMod_i, hDiv_s, hBand_i, hShr_i, hPow_10_18, hPow_10_27, hPow_10_28, hPow_10_29, hPow_10_30, hEq_i, hNe_i, hLen_l, hLen_t, hMin2_i, hMax2_i, hMin3_i, hInt1_b, hInt1_i, hBits_i, hListOf_l, hListOf_t, hTupOf_l, hTupOf_t, gSeqS_def, gSet_def, gRet_def, gIfS_def, gNext_def, gTup_def, gLst_def, List.getElem?_cons_zero, List.getElem?_cons_succ, List.set_cons_zero, List.set_cons_succ, List.length_cons, List.length_nil, Nat.zero_add, Nat.reduceAdd, Nat.reduceLeDiff, Nat.reduceSub, Nat.reduceMul, if_true, if_false, Bool.false_eq_true, List.replicate_succ, List.replicate_zero, List.cons_append, List.nil_append, tgN, tgT, tgCons, tgNil, Int.reducePow, Int.reduceAdd, Int.reduceSub, Int.reduceMul, decide_true, decide_false, Bool.not_true, Bool.not_false, gChain_def, hIsa_int, hIsa_intb, hIsa_list, hIsa_tuple, gDrop_def, hIn_intsT, hNe_b]
      rfl, fun _ => rfl⟩)
  simp only [gRet_def, gPurN_def, h, bnd_ok, pureIn, map1, pureA_ints, if_true]
  rfl
def since (t : Int) (r : List T3) : List T3 := r.filter fun s => decide (t ≤ s.1)
theorem since_ok (r : List T3) (t : Int) (hl : r.length ≤ 1000) : f_since [.list (r.map enc3), .int t] = .ok (.list ((since t r).map enc3)) := by
  refine fnL_rt ?_
  show g_since [.list (r.map enc3), .int t, .none] = _
  unfold g_since
  have h := gLc_map enc3 (fun s => decide (t ≤ s.1)) enc3 (gi := gSeq (gVar 0)) (h := tgN 2) (gt := gTest (gOp hGe (gOp hIx (gVar 2) (gC (.int (0)))) (gVar 1))) (ge := gVar 2)
    (ρ := [.list (r.map enc3), .int t, .none]) (xs := r) rfl (by omega) (fun s _ => ⟨_, rfl, by simp only [bnd_ok, gVar_def, gC_def, gOp_def, gUn_def, gNil_def, gCons_def, gIf_def, gTest_def, gNot_def, gAnd_def, gOr_def, gAndV_def, gOrV_def, gNotV_def, gCB_def, asB_b, hAdd_i, hSub_i, hLt_i, hLe_i, hGt_i, hGe_i, hMul_r, hMul_l, hMod_i, hDiv_s, hBand_i, hShr_i, hPow_10_18, hPow_10_27, hPow_10_28, hPow_10_29, hPow_10_30, hEq_i, hNe_i, hLen_l, hLen_t, hMin2_i, hMax2_i, hMin3_i, hInt1_b, hInt1_i, hBits_i, hListOf_l, hListOf_t, hTupOf_l, hTupOf_t, gSeqS_def, gSet_def, gRet_def, gIfS_def, gNext_def, gTup_def, gLst_def, List.getElem?_cons_zero, List.getElem?_cons_succ, List.set_cons_zero, List.set_cons_succ, List.length_cons, List.length_nil, Nat.zero_add, Nat.reduceAdd, Nat.reduceLeDiff, Nat.reduceSub, Nat.reduceMul, if_true, if_false, Bool.false_eq_true, List.replicate_succ, List.replicate_zero, List.cons_append, List.nil_append, tgN, tgT, tgCons, tgNil, Int.reducePow, Int.reduceAdd, Int.reduceSub, Int.reduceMul, decide_true, decide_false, Bool.not_true, Bool.not_false, gChain_def, hIsa_int, hIsa_intb, hIsa_list, hIsa_tuple, gDrop_def, ix3_0], fun _ => rfl⟩)
  simp only [gRet_def, gPurN_def, h, bnd_ok, pureIn, pure3, if_true]
  rfl
/-! are_apart -/
def sE (m : Int) : Dt × Dt := (.int m, .bool true)
def encS (S : List Int) : Dt := .dict (S.map sE)
theorem isK_sE (q m : Int) : isK (.inl q) (sE m).1 = (m == q) := by
  show decide (m = q) = (m == q)
  by_cases c : m = q <;> simp [c]
theorem dGet_S (q : Int) : ∀ S : List Int, (dGet (S.map sE) (.inl q)).isSome = decide (q ∈ S)
  | [] => rfl
  | m :: S => by
    have ih := dGet_S q S
    unfold dGet at ih ⊢
    rw [List.map_cons, List.find?_cons, isK_sE]
    cases h : (m == q)
    · have : ¬ q = m := fun e => by rw [e] at h; simp at h
      simp only [ih]
      simp [this]
    · have : m = q := by simpa using h
      simp [this]
theorem dPut_S (q : Int) (v : Dt) (S : List Int) (h : q ∉ S) : dPut (S.map sE) (.inl q) v = S.map sE ++ [(.int q, v)] := by
  unfold dPut
  rw [if_neg]
  · rfl
  · intro z
    obtain ⟨x, hx, e⟩ := List.any_eq_true.mp z
    obtain ⟨m, hm, rfl⟩ := List.mem_map.mp hx
    rw [isK_sE, beq_iff_eq] at e
    exact h (e ▸ hm)
theorem ap1_ok (W w : Dt) : ∀ (ms S : List Int) (x3 : Dt), (S ++ ms).Nodup → (S ++ ms).length ≤ 1000 →
    ∃ y3, forE (tgN 3) g_are_apart_L1 (ms.map .int) [W, encS S, w, x3] = .ok (.nx [W, encS (S ++ ms), w, y3])
  | [], S, x3, _, _ => ⟨x3, by rw [List.append_nil]; rfl⟩
  | m :: ms, S, x3, hn, hl => by
    have hm : m ∉ S := fun z => (List.nodup_append.mp hn).2.2 m z m List.mem_cons_self rfl
    have ha : S ++ m :: ms = (S ++ [m]) ++ ms := by rw [List.append_assoc]; rfl
    rw [ha] at hn hl ⊢
    obtain ⟨y3, ih⟩ := ap1_ok W w ms (S ++ [m]) (.int m) hn hl
    refine ⟨y3, ?_⟩
    rw [← ih, List.map_cons]
    conv => lhs; unfold forE
    have e1 : tgN 3 (.int m) [W, encS S, w, x3] = .ok [W, encS S, w, .int m] := rfl
    have e3 : gVar 3 [W, encS S, w, .int m] = .ok (.int m) := rfl
    have ek : ∀ z, keyOf (.int z) = some (.inl z) := fun _ => rfl
    have ed : dAt [W, encS S, w, .int m] 1 = some (S.map sE) := rfl
    have din : gTest (gDIn false 1 (gVar 3)) [W, encS S, w, .int m] = .ok false := by
      rw [gTest_def]
      unfold gDIn
      simp only [e3, bnd_ok, ed, ek, dGet_S, decide_eq_false hm]
      rfl
    have hput := dPut_S m (.bool true) S hm
    have e2 : g_are_apart_L1 [W, encS S, w, .int m] = .ok (.nx [W, encS (S ++ [m]), w, .int m]) := by
      unfold g_are_apart_L1
      refine seq_step ((if_f din).trans rfl) ?_
      unfold gDPut
      simp only [gC_def, bnd_ok, ed, e3, ek, hput, List.length_map]
      rw [if_pos (by rw [List.length_append, List.length_append] at hl; omega)]
      have e5 : S.map sE ++ [(PyData.int m, PyData.bool true)] = (S ++ [m]).map sE := by rw [List.map_append]; rfl
      rw [e5]
      rfl
    rw [e1]
    simp only [e2, bnd_ok]
theorem ap2_ok (W : Dt) : ∀ (WS : List (List Int)) (S : List Int) (x2 x3 : Dt), (S ++ WS.flatten).Nodup → (S ++ WS.flatten).length ≤ 1000 →
    ∃ T y2 y3, forE (tgN 2) g_are_apart_L2 (WS.map encI) [W, encS S, x2, x3] = .ok (.nx [W, T, y2, y3])
  | [], S, x2, x3, _, _ => ⟨_, _, _, rfl⟩
  | w :: WS, S, x2, x3, hn, hl => by
    rw [List.flatten_cons, ← List.append_assoc] at hn hl
    obtain ⟨y3, h1⟩ := ap1_ok W (encI w) w S x3 (List.nodup_append.mp hn).1 (by rw [List.length_append] at hl; omega)
    obtain ⟨T, z2, z3, ih⟩ := ap2_ok W WS (S ++ w) (encI w) y3 hn hl
    refine ⟨T, z2, z3, ?_⟩
    rw [← ih, List.map_cons]
    conv => lhs; unfold forE
    have e1 : tgN 2 (encI w) [W, encS S, x2, x3] = .ok [W, encS S, encI w, x3] := rfl
    have e2 : g_are_apart_L2 [W, encS S, encI w, x3] = .ok (.nx [W, encS (S ++ w), encI w, y3]) := for_ok (ds := w.map .int) (seqG_l (by rfl)) h1
    rw [e1]
    simp only [e2, bnd_ok]
theorem apart_ok {WS : List (List Int)} (hn : WS.flatten.Nodup) (hl : WS.flatten.length ≤ 1000) : f_are_apart [.list (WS.map encI)] = .ok (.bool true) := by
  obtain ⟨T, y2, y3, h⟩ := ap2_ok (.list (WS.map encI)) WS [] .none .none hn hl
  refine fnN_rt ?_
  show g_are_apart [.list (WS.map encI), .none, .none, .none] = _
  unfold g_are_apart
  refine seq_step (set_ok (d := encS []) (by rfl)) ?_
  dsimp only [List.set]
  refine seq_step (for_ok (ds := WS.map encI) (seqG_l (by rfl)) h) ?_
  rfl
theorem all_t {α : Type} (xs : List α) : hAll [.list (xs.map fun _ => PyData.bool true)] = .ok (.bool true) := by
  have := hAll_b (xs.map fun _ => true)
  rw [List.map_map] at this
  rw [show (PyData.bool ∘ fun (_ : α) => true) = fun _ => PyData.bool true from rfl] at this
  rw [this]
  simp
theorem many_ok {r : List T3} (ho : r.Pairwise fun s t => s.1 < t.1) (hl : r.length ≤ 60) {a b : Int} {WS : List (List Int)} (h : WOk r a b WS) (h1 : WS.length ≤ 1000) (h2 : WS.flatten.length ≤ 1000) :
    f_many_ways [.list (r.map enc3), .int a, .int b, .list (WS.map encI)] = .ok (.int WS.length) := by
  refine fnN_rt ?_
  show g_many_ways [.list (r.map enc3), .int a, .int b, .list (WS.map encI), .none] = _
  unfold g_many_ways
  have t1 : gTest (gUn (hIsa .list) (gVar 3)) [.list (r.map enc3), .int a, .int b, .list (WS.map encI), .none] = .ok true := rfl
  have l1 : gLc (gSeq (gVar 3)) (tgN 4) (gYes) (gUn (hIsa .list) (gVar 4)) [.list (r.map enc3), .int a, .int b, .list (WS.map encI), .none] = .ok (.list (WS.map fun _ => .bool true)) := by
    rw [gLc_map encI (fun _ => true) (fun _ => .bool true) (xs := WS) (by rfl) (by omega) fun w hw => ⟨_, rfl, rfl, fun _ => rfl⟩, List.filter_eq_self.mpr (fun _ _ => rfl)]
  have t2 : gTest (gCB hAll (gCons (gLc (gSeq (gVar 3)) (tgN 4) (gYes) (gUn (hIsa .list) (gVar 4))) (gNil))) [.list (r.map enc3), .int a, .int b, .list (WS.map encI), .none] = .ok true := by
    rw [gTest_def, gCB_def, gCons_def, l1]
    simp only [bnd_ok, gNil_def, all_t]
    rfl
  refine seq_step ((if_f (by simp only [gOr_def, gNot_def, t1, t2, bnd_ok, Bool.not_true, Bool.false_eq_true, if_false])).trans rfl) ?_
  have t3 : gTest (gCallN 1 f_are_apart (gCons (gVar 3) (gNil))) [.list (r.map enc3), .int a, .int b, .list (WS.map encI), .none] = .ok true := by
    have c1 : gCallN 1 f_are_apart (gCons (gVar 3) (gNil)) [.list (r.map enc3), .int a, .int b, .list (WS.map encI), .none] = .ok (.bool true) := callN_ok (ds := [.list (WS.map encI)]) rfl rfl (apart_ok h.nd h2)
    rw [gTest_def, c1]
    rfl
  have l2 : gLc (gSeq (gVar 3)) (tgN 4) (gYes) (gCallN 4 f_way_right (gCons (gVar 0) (gCons (gVar 1) (gCons (gVar 2) (gCons (gVar 4) (gNil)))))) [.list (r.map enc3), .int a, .int b, .list (WS.map encI), .none] = .ok (.list (WS.map fun _ => .bool true)) := by
    rw [gLc_map encI (fun _ => true) (fun _ => .bool true) (xs := WS) (by rfl) (by omega) fun w hw => ⟨[.list (r.map enc3), .int a, .int b, .list (WS.map encI), encI w], rfl, rfl, fun _ => ?_⟩, List.filter_eq_self.mpr (fun _ _ => rfl)]
    refine callN_ok (ds := [.list (r.map enc3), .int a, .int b, .list (w.map .int)]) rfl rfl ?_
    rw [right_ok ho hl a b w, h.right w hw]
  have t4 : gTest (gCB hAll (gCons (gLc (gSeq (gVar 3)) (tgN 4) (gYes) (gCallN 4 f_way_right (gCons (gVar 0) (gCons (gVar 1) (gCons (gVar 2) (gCons (gVar 4) (gNil))))))) (gNil))) [.list (r.map enc3), .int a, .int b, .list (WS.map encI), .none] = .ok true := by
    rw [gTest_def, gCB_def, gCons_def, l2]
    simp only [bnd_ok, gNil_def, all_t]
    rfl
  refine seq_step ((if_f (by simp only [gOr_def, gNot_def, t3, t4, bnd_ok, Bool.not_true, Bool.false_eq_true, if_false])).trans rfl) ?_
  refine ret_ok ?_
  simp only [bnd_ok, gVar_def, gC_def, gOp_def, gUn_def, gNil_def, gCons_def, gIf_def, gTest_def, gNot_def, gAnd_def, gOr_def, gAndV_def, gOrV_def, gNotV_def, gCB_def, asB_b, hAdd_i, hSub_i, hLt_i, hLe_i, hGt_i, hGe_i, hMul_r, hMul_l, hMod_i, hDiv_s, hBand_i, hShr_i, hPow_10_18, hPow_10_27, hPow_10_28, hPow_10_29, hPow_10_30, hEq_i, hNe_i, hLen_l, hLen_t, hMin2_i, hMax2_i, hMin3_i, hInt1_b, hInt1_i, hBits_i, hListOf_l, hListOf_t, hTupOf_l, hTupOf_t, gSeqS_def, gSet_def, gRet_def, gIfS_def, gNext_def, gTup_def, gLst_def, List.getElem?_cons_zero, List.getElem?_cons_succ, List.set_cons_zero, List.set_cons_succ, List.length_cons, List.length_nil, Nat.zero_add, Nat.reduceAdd, Nat.reduceLeDiff, Nat.reduceSub, Nat.reduceMul, if_true, if_false, Bool.false_eq_true, List.replicate_succ, List.replicate_zero, List.cons_append, List.nil_append, tgN, tgT, tgCons, tgNil, Int.reducePow, Int.reduceAdd, Int.reduceSub, Int.reduceMul, decide_true, decide_false, Bool.not_true, Bool.not_false, gChain_def, hIsa_int, hIsa_intb, hIsa_list, hIsa_tuple, gDrop_def, List.length_map]
/-! is_side -/
theorem side_is {n : Int} {side : List Int} (h1 : ∀ p ∈ side, 0 ≤ p ∧ p < n) (h2 : side.Pairwise (· < ·)) (hl : side.length ≤ 1000) : f_is_side [.int n, .tuple (side.map .int)] = .ok (.bool true) := by
  refine fnN_rt ?_
  show g_is_side [.int n, .tuple (side.map .int), .none, .none] = _
  unfold g_is_side
  have t1 : gTest (gUn (hIsa .tuple) (gVar 1)) [.int n, .tuple (side.map .int), .none, .none] = .ok true := rfl
  have l1 : gLc (gSeq (gVar 1)) (tgN 2) (gYes) (gCallN 2 f_is_place (gCons (gVar 0) (gCons (gVar 2) (gNil)))) [.int n, .tuple (side.map .int), .none, .none] = .ok (.list (side.map fun _ => .bool true)) := by
    rw [gLc_map PyData.int (fun _ => true) (fun _ => .bool true) (xs := side) (seqG_t (by rfl)) (by omega) fun p hp => ⟨[.int n, .tuple (side.map .int), .int p, .none], rfl, rfl, fun _ => ?_⟩, List.filter_eq_self.mpr (fun _ _ => rfl)]
    refine callN_ok (ds := [.int n, .int p]) rfl rfl ?_
    rw [place_ok, decide_eq_true (h1 p hp).1, decide_eq_true (h1 p hp).2]
    rfl
  have t2 : gTest (gCB hAll (gCons (gLc (gSeq (gVar 1)) (tgN 2) (gYes) (gCallN 2 f_is_place (gCons (gVar 0) (gCons (gVar 2) (gNil))))) (gNil))) [.int n, .tuple (side.map .int), .none, .none] = .ok true := by
    rw [gTest_def, gCB_def, gCons_def, l1]
    simp only [bnd_ok, gNil_def, all_t]
    rfl
  refine seq_step ((if_f (by simp only [gOr_def, gNot_def, t1, t2, bnd_ok, Bool.not_true, Bool.false_eq_true, if_false])).trans rfl) ?_
  have lr : gRng2 (gCons (gC (.int (1))) (gCons (gCB hLen (gCons (gVar 1) (gNil))) (gNil))) [.int n, .tuple (side.map .int), .none, .none] = .ok ((List.range (side.length - 1)).map fun (i : Nat) => PyData.int (1 + (i : Int))) := by
    rw [rng2_ok (i := 1) (j := (side.length : Int)) (by simp only [bnd_ok, gVar_def, gC_def, gOp_def, gUn_def, gNil_def, gCons_def, gIf_def, gTest_def, gNot_def, gAnd_def, gOr_def, gAndV_def, gOrV_def, gNotV_def, gCB_def, asB_b, hAdd_i, hSub_i, hLt_i, hLe_i, hGt_i, hGe_i, hMul_r, hMul_l, hMod_i, hDiv_s, hBand_i, hShr_i, hPow_10_18, hPow_10_27, hPow_10_28, hPow_10_29, hPow_10_30, hEq_i, hNe_i, hLen_l, hLen_t, hMin2_i, hMax2_i, hMin3_i, hInt1_b, hInt1_i, hBits_i, hListOf_l, hListOf_t, hTupOf_l, hTupOf_t, gSeqS_def, gSet_def, gRet_def, gIfS_def, gNext_def, gTup_def, gLst_def, List.getElem?_cons_zero, List.getElem?_cons_succ, List.set_cons_zero, List.set_cons_succ, List.length_cons, List.length_nil, Nat.zero_add, Nat.reduceAdd, Nat.reduceLeDiff, Nat.reduceSub, Nat.reduceMul, if_true, if_false, Bool.false_eq_true, List.replicate_succ, List.replicate_zero, List.cons_append, List.nil_append, tgN, tgT, tgCons, tgNil, Int.reducePow, Int.reduceAdd, Int.reduceSub, Int.reduceMul, decide_true, decide_false, Bool.not_true, Bool.not_false, gChain_def, hIsa_int, hIsa_intb, hIsa_list, hIsa_tuple, gDrop_def, List.length_map]) (by omega) (by omega) (by omega) (by omega)]
    unfold rangeD
    rw [show ((side.length : Int) - 1).toNat = side.length - 1 by omega]
  have l2 : gLc (gRng2 (gCons (gC (.int (1))) (gCons (gCB hLen (gCons (gVar 1) (gNil))) (gNil)))) (tgN 3) (gYes) (gOp hLt (gOp hIx (gVar 1) (gOp hSub (gVar 3) (gC (.int (1))))) (gOp hIx (gVar 1) (gVar 3))) [.int n, .tuple (side.map .int), .none, .none] = .ok (.list ((List.range (side.length - 1)).map fun _ => .bool true)) := by
    rw [gLc_map (fun (i : Nat) => PyData.int (1 + (i : Int))) (fun _ => true) (fun _ => .bool true) (xs := List.range (side.length - 1)) lr (by rw [List.length_range]; omega) fun i hi => ⟨[.int n, .tuple (side.map .int), .none, .int (1 + (i : Int))], rfl, rfl, fun _ => ?_⟩, List.filter_eq_self.mpr (fun _ _ => rfl)]
    have hi := List.mem_range.mp hi
    have i1 : hIx (.tuple (side.map .int)) (.int (1 + (i : Int) - 1)) = .ok (.int side[i]) := by
      refine (hIx_t (atI_map _ (by omega) (by omega))).trans ?_
      have e : ((1 : Int) + (i : Int) - 1).toNat = i := by omega
      simp only [e]
    have i2 : hIx (.tuple (side.map .int)) (.int (1 + (i : Int))) = .ok (.int side[i + 1]) := by
      refine (hIx_t (atI_map _ (by omega) (by omega))).trans ?_
      have e : ((1 : Int) + (i : Int)).toNat = i + 1 := by omega
      simp only [e]
    have lt : side[i] < side[i + 1] := List.pairwise_iff_getElem.mp h2 i (i + 1) (by omega) (by omega) (by omega)
    simp only [bnd_ok, gVar_def, gC_def, gOp_def, gUn_def, gNil_def, gCons_def, gIf_def, gTest_def, gNot_def, gAnd_def, gOr_def, gAndV_def, gOrV_def, gNotV_def, gCB_def, asB_b, hAdd_i, hSub_i, hLt_i, hLe_i, hGt_i, hGe_i, hMul_r, hMul_l, hMod_i, hDiv_s, hBand_i, hShr_i, hPow_10_18, hPow_10_27, hPow_10_28, hPow_10_29, hPow_10_30, hEq_i, hNe_i, hLen_l, hLen_t, hMin2_i, hMax2_i, hMin3_i, hInt1_b, hInt1_i, hBits_i, hListOf_l, hListOf_t, hTupOf_l, hTupOf_t, gSeqS_def, gSet_def, gRet_def, gIfS_def, gNext_def, gTup_def, gLst_def, List.getElem?_cons_zero, List.getElem?_cons_succ, List.set_cons_zero, List.set_cons_succ, List.length_cons, List.length_nil, Nat.zero_add, Nat.reduceAdd, Nat.reduceLeDiff, Nat.reduceSub, Nat.reduceMul, if_true, if_false, Bool.false_eq_true, List.replicate_succ, List.replicate_zero, List.cons_append, List.nil_append, tgN, tgT, tgCons, tgNil, Int.reducePow, Int.reduceAdd, Int.reduceSub, Int.reduceMul, decide_true, decide_false, Bool.not_true, Bool.not_false, gChain_def, hIsa_int, hIsa_intb, hIsa_list, hIsa_tuple, gDrop_def, i1, i2, lt]
  refine ret_ok ?_
  rw [gCB_def, gCons_def, l2]
  simp only [bnd_ok, gNil_def, all_t]
/-! judged -/
theorem sh_str : SeqAt.shaped (.str "ways") = true ∧ SeqAt.shaped (.str "side") = true ∧ SeqAt.shaped (.str "out") = true ∧ SeqAt.shaped (.str "at least") = true ∧ SeqAt.shaped (.str "at most") = true := by decide +kernel
theorem hEq_str {s t : Str} (h1 : SeqAt.shaped (.str s) = true) (h2 : SeqAt.shaped (.str t) = true) : hEq (.str s) (.str t) = .ok (.bool (s == t)) := by unfold hEq; rw [h1, h2]; simp [PyData.eqv]
theorem hNe_str {s t : Str} (h1 : SeqAt.shaped (.str s) = true) (h2 : SeqAt.shaped (.str t) = true) : hNe (.str s) (.str t) = .ok (.bool (!(s == t))) := by unfold hNe; rw [h1, h2]; simp [PyData.eqv]
theorem since_ord {r : List T3} (ho : r.Pairwise fun s t => s.1 < t.1) (t : Int) : (since t r).Pairwise fun s t => s.1 < t.1 := ho.filter _
theorem since_len (r : List T3) (t : Int) : (since t r).length ≤ r.length := List.length_filter_le ..
/-- as many as a way's moments are there -/
theorem WOk.len {r : List T3} {a b : Int} {WS : List (List Int)} (h : WOk r a b WS) : WS.flatten.length ≤ r.length := by
  have := List.Nodup.length_le_of_subset h.nd (l₂ := r.map (·.1)) fun m hm => by
    obtain ⟨w, hw, hm⟩ := List.mem_flatten.mp hm
    obtain ⟨t, ht, e⟩ := goD_mem w a (h.go w hw) m hm
    exact List.mem_map.mpr ⟨t, ht, e⟩
  rwa [List.length_map] at this
theorem judged_ways {n a b t : Int} {r : List T3} (ho : r.Pairwise fun s t => s.1 < t.1) (hl : r.length ≤ 60) (a0 : 0 ≤ a) (an : a < n) (b0 : 0 ≤ b) (bn : b < n) (ab : a ≠ b) (t0 : 0 ≤ t) {WS : List (List Int)} (h : WOk (since t r) a b WS) (h1 : WS.length ≤ 1000) :
    f_judged [.int n, .list (r.map enc3), .tuple [.str "ways", .int a, .int b, .int t, .list (WS.map encI)]] = .ok (.tuple [.str "at least", .int WS.length]) := by
  have hp : f_judged_pair [.int n, .list (r.map enc3), .tuple [.str "ways", .int a, .int b, .int t, .list (WS.map encI)]] = .ok (.tuple [.str "at least", .int WS.length]) := by
    refine fnN_rt ?_
    show g_judged_pair [.int n, .list (r.map enc3), .tuple [.str "ways", .int a, .int b, .int t, .list (WS.map encI)], .none, .none, .none, .none, .none] = _
    unfold g_judged_pair
    refine seq_step (ρ' := [.int n, .list (r.map enc3), .tuple [.str "ways", .int a, .int b, .int t, .list (WS.map encI)], .str "ways", .int a, .int b, .int t, .list (WS.map encI)]) (asg_ok (by rfl) (by rfl)) ?_
    generalize hP : PyData.tuple [.str "ways", .int a, .int b, .int t, .list (WS.map encI)] = P
    have c1 : gCallN 2 f_is_place (gCons (gVar 0) (gCons (gVar 4) (gNil))) [.int n, .list (r.map enc3), P, .str "ways", .int a, .int b, .int t, .list (WS.map encI)] = .ok (.bool (decide (0 ≤ a) && decide (a < n))) := callN_ok (ds := [.int n, .int a]) rfl rfl (place_ok n a)
    have c2 : gCallN 2 f_is_place (gCons (gVar 0) (gCons (gVar 5) (gNil))) [.int n, .list (r.map enc3), P, .str "ways", .int a, .int b, .int t, .list (WS.map encI)] = .ok (.bool (decide (0 ≤ b) && decide (b < n))) := callN_ok (ds := [.int n, .int b]) rfl rfl (place_ok n b)
    have c3 : gCallN 1 f_is_whole (gCons (gVar 6) (gNil)) [.int n, .list (r.map enc3), P, .str "ways", .int a, .int b, .int t, .list (WS.map encI)] = .ok (.bool true) := callN_ok (ds := [.int t]) rfl rfl (whole_int t)
    rw [decide_eq_true a0, decide_eq_true an] at c1
    rw [decide_eq_true b0, decide_eq_true bn] at c2
    have e1 : (a == b) = false := beq_eq_false_iff_ne.mpr ab
    have e2 : decide (t < 0) = false := decide_eq_false (by omega)
    refine seq_step ((if_f ?_).trans rfl) ?_
    · rw [gOr_def, gNot_def, gTest_def, c1]
      simp only [bnd_ok, asB_b, Bool.and_self, Bool.not_true, Bool.false_eq_true, if_false]
      rw [gOr_def, gNot_def, gTest_def, c2]
      simp only [bnd_ok, asB_b, Bool.and_self, Bool.not_true, Bool.false_eq_true, if_false]
      rw [gOr_def, gTest_def, gOp_def]
      have : bnd (hEq (.int a) (.int b)) asB = .ok false := by rw [hEq_i, e1]; rfl
      refine (congrArg (fun z => bnd z _) this).trans ?_
      simp only [bnd_ok, Bool.false_eq_true, if_false]
      rw [gOr_def, gNot_def, gTest_def, c3]
      simp only [bnd_ok, asB_b, Bool.not_true, Bool.false_eq_true, if_false]
      simp only [bnd_ok, gVar_def, gC_def, gOp_def, gUn_def, gNil_def, gCons_def, gIf_def, gTest_def, gNot_def, gAnd_def, gOr_def, gAndV_def, gOrV_def, gNotV_def, gCB_def, asB_b, hAdd_i, hSub_i, hLt_i, hLe_i, hGt_i, hGe_i, hMul_r, hMul_l, hMod_i, hDiv_s, hBand_i, hShr_i, hPow_10_18, hPow_10_27, hPow_10_28, hPow_10_29, hPow_10_30, hEq_i, hNe_i, hLen_l, hLen_t, hMin2_i, hMax2_i, hMin3_i, hInt1_b, hInt1_i, hBits_i, hListOf_l, hListOf_t, hTupOf_l, hTupOf_t, gSeqS_def, gSet_def, gRet_def, gIfS_def, gNext_def, gTup_def, gLst_def, List.getElem?_cons_zero, List.getElem?_cons_succ, List.set_cons_zero, List.set_cons_succ, List.length_cons, List.length_nil, Nat.zero_add, Nat.reduceAdd, Nat.reduceLeDiff, Nat.reduceSub, Nat.reduceMul, if_true, if_false, Bool.false_eq_true, List.replicate_succ, List.replicate_zero, List.cons_append, List.nil_append, tgN, tgT, tgCons, tgNil, Int.reducePow, Int.reduceAdd, Int.reduceSub, Int.reduceMul, decide_true, decide_false, Bool.not_true, Bool.not_false, gChain_def, hIsa_int, hIsa_intb, hIsa_list, hIsa_tuple, gDrop_def, e2]
    have c4 : gCallN 2 f_since (gCons (gVar 1) (gCons (gVar 6) (gNil))) [.int n, .list (r.map enc3), P, .str "ways", .int a, .int b, .int t, .list (WS.map encI)] = .ok (.list ((since t r).map enc3)) := callN_ok (ds := [.list (r.map enc3), .int t]) rfl rfl (since_ok r t (by omega))
    have c5 : gCallN 4 f_many_ways (gCons (gCallN 2 f_since (gCons (gVar 1) (gCons (gVar 6) (gNil)))) (gCons (gVar 4) (gCons (gVar 5) (gCons (gVar 7) (gNil))))) [.int n, .list (r.map enc3), P, .str "ways", .int a, .int b, .int t, .list (WS.map encI)] = .ok (.int WS.length) := by
      have hs := since_len r t
      refine callN_ok (ds := [.list ((since t r).map enc3), .int a, .int b, .list (WS.map encI)]) ?_ rfl (many_ok (since_ord ho t) (by omega) h h1 (by have := h.len; omega))
      rw [gCons_def, c4]
      rfl
    refine seq_rt ((if_t ?_).trans (ret_ok (d := .tuple [.str "at least", .int WS.length]) ?_))
    · rw [gTest_def, gOp_def]
      show bnd (hEq (.str "ways") (.str "ways")) asB = _
      rw [hEq_str sh_str.1 sh_str.1]
      rfl
    · refine gTup_ok (xs := [.str "at least", .int WS.length]) ?_ (by simp)
      rw [gCons_def, gC_def, bnd_ok, gCons_def, c5]
      rfl
  refine fnN_rt ?_
  show g_judged [.int n, .list (r.map enc3), .tuple [.str "ways", .int a, .int b, .int t, .list (WS.map encI)]] = _
  unfold g_judged
  refine seq_rt ((if_t (by rfl)).trans (ret_ok (callN_ok (ds := [.int n, .list (r.map enc3), .tuple [.str "ways", .int a, .int b, .int t, .list (WS.map encI)]]) rfl rfl hp)))
theorem judged_side {n a b t : Int} {r : List T3} (hl : r.length ≤ 60) (a0 : 0 ≤ a) (an : a < n) (b0 : 0 ≤ b) (bn : b < n) (ab : a ≠ b) (t0 : 0 ≤ t) {side : List Int} (h1 : ∀ p ∈ side, 0 ≤ p ∧ p < n) (h2 : side.Pairwise (· < ·)) (h3 : side.length ≤ 1000) (ha : a ∈ side) (hb : b ∉ side) :
    f_judged [.int n, .list (r.map enc3), .tuple [.str "side", .int a, .int b, .int t, .tuple (side.map .int)]] = .ok (.tuple [.str "at most", .int (rimM (since t r) side).length]) := by
  have hp : f_judged_pair [.int n, .list (r.map enc3), .tuple [.str "side", .int a, .int b, .int t, .tuple (side.map .int)]] = .ok (.tuple [.str "at most", .int (rimM (since t r) side).length]) := by
    refine fnN_rt ?_
    show g_judged_pair [.int n, .list (r.map enc3), .tuple [.str "side", .int a, .int b, .int t, .tuple (side.map .int)], .none, .none, .none, .none, .none] = _
    unfold g_judged_pair
    refine seq_step (ρ' := [.int n, .list (r.map enc3), .tuple [.str "side", .int a, .int b, .int t, .tuple (side.map .int)], .str "side", .int a, .int b, .int t, .tuple (side.map .int)]) (asg_ok (by rfl) (by rfl)) ?_
    generalize hP : PyData.tuple [.str "side", .int a, .int b, .int t, .tuple (side.map .int)] = P
    have c1 : gCallN 2 f_is_place (gCons (gVar 0) (gCons (gVar 4) (gNil))) [.int n, .list (r.map enc3), P, .str "side", .int a, .int b, .int t, .tuple (side.map .int)] = .ok (.bool (decide (0 ≤ a) && decide (a < n))) := callN_ok (ds := [.int n, .int a]) rfl rfl (place_ok n a)
    have c2 : gCallN 2 f_is_place (gCons (gVar 0) (gCons (gVar 5) (gNil))) [.int n, .list (r.map enc3), P, .str "side", .int a, .int b, .int t, .tuple (side.map .int)] = .ok (.bool (decide (0 ≤ b) && decide (b < n))) := callN_ok (ds := [.int n, .int b]) rfl rfl (place_ok n b)
    have c3 : gCallN 1 f_is_whole (gCons (gVar 6) (gNil)) [.int n, .list (r.map enc3), P, .str "side", .int a, .int b, .int t, .tuple (side.map .int)] = .ok (.bool true) := callN_ok (ds := [.int t]) rfl rfl (whole_int t)
    rw [decide_eq_true a0, decide_eq_true an] at c1
    rw [decide_eq_true b0, decide_eq_true bn] at c2
    have e1 : (a == b) = false := beq_eq_false_iff_ne.mpr ab
    have e2 : decide (t < 0) = false := decide_eq_false (by omega)
    refine seq_step ((if_f ?_).trans rfl) ?_
    · rw [gOr_def, gNot_def, gTest_def, c1]
      simp only [bnd_ok, asB_b, Bool.and_self, Bool.not_true, Bool.false_eq_true, if_false]
      rw [gOr_def, gNot_def, gTest_def, c2]
      simp only [bnd_ok, asB_b, Bool.and_self, Bool.not_true, Bool.false_eq_true, if_false]
      rw [gOr_def, gTest_def, gOp_def]
      have : bnd (hEq (.int a) (.int b)) asB = .ok false := by rw [hEq_i, e1]; rfl
      refine (congrArg (fun z => bnd z _) this).trans ?_
      simp only [bnd_ok, Bool.false_eq_true, if_false]
      rw [gOr_def, gNot_def, gTest_def, c3]
      simp only [bnd_ok, asB_b, Bool.not_true, Bool.false_eq_true, if_false]
      simp only [bnd_ok, gVar_def, gC_def, gOp_def, gUn_def, gNil_def, gCons_def, gIf_def, gTest_def, gNot_def, gAnd_def, gOr_def, gAndV_def, gOrV_def, gNotV_def, gCB_def, asB_b, hAdd_i, hSub_i, hLt_i, hLe_i, hGt_i, hGe_i, hMul_r, hMul_l, hMod_i, hDiv_s, hBand_i, hShr_i, hPow_10_18, hPow_10_27, hPow_10_28, hPow_10_29, hPow_10_30, hEq_i, hNe_i, hLen_l, hLen_t, hMin2_i, hMax2_i, hMin3_i, hInt1_b, hInt1_i, hBits_i, hListOf_l, hListOf_t, hTupOf_l, hTupOf_t, gSeqS_def, gSet_def, gRet_def, gIfS_def, gNext_def, gTup_def, gLst_def, List.getElem?_cons_zero, List.getElem?_cons_succ, List.set_cons_zero, List.set_cons_succ, List.length_cons, List.length_nil, Nat.zero_add, Nat.reduceAdd, Nat.reduceLeDiff, Nat.reduceSub, Nat.reduceMul, if_true, if_false, Bool.false_eq_true, List.replicate_succ, List.replicate_zero, List.cons_append, List.nil_append, tgN, tgT, tgCons, tgNil, Int.reducePow, Int.reduceAdd, Int.reduceSub, Int.reduceMul, decide_true, decide_false, Bool.not_true, Bool.not_false, gChain_def, hIsa_int, hIsa_intb, hIsa_list, hIsa_tuple, gDrop_def, e2]
    refine seq_step ((if_f ?_).trans rfl) ?_
    · rw [gTest_def, gOp_def]
      show bnd (hEq (.str "side") (.str "ways")) asB = _
      rw [hEq_str sh_str.2.1 sh_str.1]
      rfl
    have c6 : gCallN 2 f_is_side (gCons (gVar 0) (gCons (gVar 7) (gNil))) [.int n, .list (r.map enc3), P, .str "side", .int a, .int b, .int t, .tuple (side.map .int)] = .ok (.bool true) := callN_ok (ds := [.int n, .tuple (side.map .int)]) rfl rfl (side_is h1 h2 h3)
    refine seq_step ((if_f ?_).trans rfl) ?_
    · rw [gOr_def, gTest_def, gOp_def]
      have : bnd (hNe (.str "side") (.str "side")) asB = .ok false := by rw [hNe_str sh_str.2.1 sh_str.2.1]; rfl
      refine (congrArg (fun z => bnd z _) this).trans ?_
      simp only [bnd_ok, Bool.false_eq_true, if_false]
      rw [gOr_def, gNot_def, gTest_def, c6]
      simp only [bnd_ok, asB_b, Bool.not_true, Bool.false_eq_true, if_false]
      simp only [bnd_ok, gVar_def, gC_def, gOp_def, gUn_def, gNil_def, gCons_def, gIf_def, gTest_def, gNot_def, gAnd_def, gOr_def, gAndV_def, gOrV_def, gNotV_def, gCB_def, asB_b, hAdd_i, hSub_i, hLt_i, hLe_i, hGt_i, hGe_i, hMul_r, hMul_l, hMod_i, hDiv_s, hBand_i, hShr_i, hPow_10_18, hPow_10_27, hPow_10_28, hPow_10_29, hPow_10_30, hEq_i, hNe_i, hLen_l, hLen_t, hMin2_i, hMax2_i, hMin3_i, hInt1_b, hInt1_i, hBits_i, hListOf_l, hListOf_t, hTupOf_l, hTupOf_t, gSeqS_def, gSet_def, gRet_def, gIfS_def, gNext_def, gTup_def, gLst_def, List.getElem?_cons_zero, List.getElem?_cons_succ, List.set_cons_zero, List.set_cons_succ, List.length_cons, List.length_nil, Nat.zero_add, Nat.reduceAdd, Nat.reduceLeDiff, Nat.reduceSub, Nat.reduceMul, if_true, if_false, Bool.false_eq_true, List.replicate_succ, List.replicate_zero, List.cons_append, List.nil_append, tgN, tgT, tgCons, tgNil, Int.reducePow, Int.reduceAdd, Int.reduceSub, Int.reduceMul, decide_true, decide_false, Bool.not_true, Bool.not_false, gChain_def, hIsa_int, hIsa_intb, hIsa_list, hIsa_tuple, gDrop_def, hNotIn_intsT, hIn_intsT, decide_eq_true ha, decide_eq_false hb]
    have c4 : gCallN 2 f_since (gCons (gVar 1) (gCons (gVar 6) (gNil))) [.int n, .list (r.map enc3), P, .str "side", .int a, .int b, .int t, .tuple (side.map .int)] = .ok (.list ((since t r).map enc3)) := callN_ok (ds := [.list (r.map enc3), .int t]) rfl rfl (since_ok r t (by omega))
    have c5 : gCallN 2 f_rim (gCons (gCallN 2 f_since (gCons (gVar 1) (gCons (gVar 6) (gNil)))) (gCons (gVar 7) (gNil))) [.int n, .list (r.map enc3), P, .str "side", .int a, .int b, .int t, .tuple (side.map .int)] = .ok (.list ((rimM (since t r) side).map .int)) := by
      have hs := since_len r t
      refine callN_ok (ds := [.list ((since t r).map enc3), .tuple (side.map .int)]) ?_ rfl (rim_ok _ _ (by omega))
      rw [gCons_def, c4]
      rfl
    refine ret_ok (gTup_ok (xs := [.str "at most", .int (rimM (since t r) side).length]) ?_ (by simp))
    rw [gCons_def, gC_def, bnd_ok, gCons_def, gCB_def, gCons_def, c5]
    simp only [bnd_ok, gNil_def, hLen_l, List.length_map]
  refine fnN_rt ?_
  show g_judged [.int n, .list (r.map enc3), .tuple [.str "side", .int a, .int b, .int t, .tuple (side.map .int)]] = _
  unfold g_judged
  refine seq_rt ((if_t (by rfl)).trans (ret_ok (callN_ok (ds := [.int n, .list (r.map enc3), .tuple [.str "side", .int a, .int b, .int t, .tuple (side.map .int)]]) rfl rfl hp)))
theorem out_loop {r : List T3} (ho : r.Pairwise fun s t => s.1 < t.1) (hl : r.length ≤ 60) {t : T3} (ht : t ∈ r) (hn : t.2.1 ≠ t.2.2) {WS : List (List Int)} (h : WOk (since (t.1 + 1) r) t.2.1 t.2.2 WS) (h1 : WS.length ≤ 1000) (P w : Dt) :
    ∀ (rs : List T3) (x : Dt), (∀ u ∈ rs, u ∈ r) → t ∈ rs → forE (tgN 5) g_judged_out_L1 (rs.map enc3) [.list (r.map enc3), P, w, .int t.1, .list (WS.map encI), x] = .ok (.rt (.tuple [.str "out", .int WS.length]))
  | [], x, _, hm => nomatch hm
  | u :: rs, x, hs, hm => by
    rw [List.map_cons]
    unfold forE
    have e1 : tgN 5 (enc3 u) [.list (r.map enc3), P, w, .int t.1, .list (WS.map encI), x] = .ok [.list (r.map enc3), P, w, .int t.1, .list (WS.map encI), enc3 u] := rfl
    rw [e1]
    simp only
    by_cases c : u.1 = t.1
    · have : u = t := mom_uniq ho (hs u List.mem_cons_self) ht c
      subst this
      have c4 : gCallN 2 f_since (gCons (gVar 0) (gCons (gOp hAdd (gVar 3) (gC (.int (1)))) (gNil))) [.list (r.map enc3), P, w, .int u.1, .list (WS.map encI), enc3 u] = .ok (.list ((since (u.1 + 1) r).map enc3)) := callN_ok (ds := [.list (r.map enc3), .int (u.1 + 1)]) rfl rfl (since_ok r _ (by omega))
      have c5 : gCallN 4 f_many_ways (gCons (gCallN 2 f_since (gCons (gVar 0) (gCons (gOp hAdd (gVar 3) (gC (.int (1)))) (gNil)))) (gCons (gOp hIx (gVar 5) (gC (.int (1)))) (gCons (gOp hIx (gVar 5) (gC (.int (2)))) (gCons (gVar 4) (gNil))))) [.list (r.map enc3), P, w, .int u.1, .list (WS.map encI), enc3 u] = .ok (.int WS.length) := by
        have hs := since_len r (u.1 + 1)
        refine callN_ok (ds := [.list ((since (u.1 + 1) r).map enc3), .int u.2.1, .int u.2.2, .list (WS.map encI)]) ?_ rfl (many_ok (since_ord ho _) (by omega) h h1 (by have := h.len; omega))
        rw [gCons_def, c4]
        rfl
      have e2 : g_judged_out_L1 [.list (r.map enc3), P, w, .int u.1, .list (WS.map encI), enc3 u] = .ok (.rt (.tuple [.str "out", .int WS.length])) := by
        unfold g_judged_out_L1
        refine (if_t ?_).trans (ret_ok (gTup_ok (xs := [.str "out", .int WS.length]) ?_ (by simp)))
        · have : (u.2.1 == u.2.2) = false := beq_eq_false_iff_ne.mpr hn
          simp only [bnd_ok, gVar_def, gC_def, gOp_def, gUn_def, gNil_def, gCons_def, gIf_def, gTest_def, gNot_def, gAnd_def, gOr_def, gAndV_def, gOrV_def, gNotV_def, gCB_def, asB_b, hAdd_i, hSub_i, hLt_i, hLe_i, hGt_i, hGe_i, hMul_r, hMul_l, hMod_i, hDiv_s, hBand_i, hShr_i, hPow_10_18, hPow_10_27, hPow_10_28, hPow_10_29, hPow_10_30, hEq_i, hNe_i, hLen_l, hLen_t, hMin2_i, hMax2_i, hMin3_i, hInt1_b, hInt1_i, hBits_i, hListOf_l, hListOf_t, hTupOf_l, hTupOf_t, gSeqS_def, gSet_def, gRet_def, gIfS_def, gNext_def, gTup_def, gLst_def, List.getElem?_cons_zero, List.getElem?_cons_succ, List.set_cons_zero, List.set_cons_succ, List.length_cons, List.length_nil, Nat.zero_add, Nat.reduceAdd, Nat.reduceLeDiff, Nat.reduceSub, Nat.reduceMul, if_true, if_false, Bool.false_eq_true, List.replicate_succ, List.replicate_zero, List.cons_append, List.nil_append, tgN, tgT, tgCons, tgNil, Int.reducePow, Int.reduceAdd, Int.reduceSub, Int.reduceMul, decide_true, decide_false, Bool.not_true, Bool.not_false, gChain_def, hIsa_int, hIsa_intb, hIsa_list, hIsa_tuple, gDrop_def, ix3_0, ix3_1, ix3_2, beq_self_eq_true, this]
        · rw [gCons_def, gC_def, bnd_ok, gCons_def, c5]
          rfl
      rw [e2]
      rfl
    · have e2 : g_judged_out_L1 [.list (r.map enc3), P, w, .int t.1, .list (WS.map encI), enc3 u] = .ok (.nx [.list (r.map enc3), P, w, .int t.1, .list (WS.map encI), enc3 u]) := by
        unfold g_judged_out_L1
        have : (u.1 == t.1) = false := beq_eq_false_iff_ne.mpr c
        exact (if_f (by simp only [bnd_ok, gVar_def, gC_def, gOp_def, gUn_def, gNil_def, gCons_def, gIf_def, gTest_def, gNot_def, gAnd_def, gOr_def, gAndV_def, gOrV_def, gNotV_def, gCB_def, asB_b, hAdd_i, hSub_i, hLt_i, hLe_i, hGt_i, hGe_i, hMul_r, hMul_l, hMod_i, hDiv_s, hBand_i, hShr_i, hPow_10_18, hPow_10_27, hPow_10_28, hPow_10_29, hPow_10_30, hEq_i, hNe_i, hLen_l, hLen_t, hMin2_i, hMax2_i, hMin3_i, hInt1_b, hInt1_i, hBits_i, hListOf_l, hListOf_t, hTupOf_l, hTupOf_t, gSeqS_def, gSet_def, gRet_def, gIfS_def, gNext_def, gTup_def, gLst_def, List.getElem?_cons_zero, List.getElem?_cons_succ, List.set_cons_zero, List.set_cons_succ, List.length_cons, List.length_nil, Nat.zero_add, Nat.reduceAdd, Nat.reduceLeDiff, Nat.reduceSub, Nat.reduceMul, if_true, if_false, Bool.false_eq_true, List.replicate_succ, List.replicate_zero, List.cons_append, List.nil_append, tgN, tgT, tgCons, tgNil, Int.reducePow, Int.reduceAdd, Int.reduceSub, Int.reduceMul, decide_true, decide_false, Bool.not_true, Bool.not_false, gChain_def, hIsa_int, hIsa_intb, hIsa_list, hIsa_tuple, gDrop_def, ix3_0, this])).trans rfl
      rw [e2]
      refine out_loop ho hl ht hn h h1 P w rs (enc3 u) (fun v hv => hs v (List.mem_cons_of_mem _ hv)) ?_
      rcases List.mem_cons.mp hm with e | hm
      · exact absurd (by rw [e]) c
      · exact hm
theorem judged_out {n : Int} {r : List T3} (ho : r.Pairwise fun s t => s.1 < t.1) (hl : r.length ≤ 60) {t : T3} (ht : t ∈ r) (hn : t.2.1 ≠ t.2.2) {WS : List (List Int)} (h : WOk (since (t.1 + 1) r) t.2.1 t.2.2 WS) (h1 : WS.length ≤ 1000) :
    f_judged [.int n, .list (r.map enc3), .tuple [.str "out", .int t.1, .list (WS.map encI)]] = .ok (.tuple [.str "out", .int WS.length]) := by
  have hp : f_judged_out [.list (r.map enc3), .tuple [.str "out", .int t.1, .list (WS.map encI)]] = .ok (.tuple [.str "out", .int WS.length]) := by
    refine fnN_rt ?_
    show g_judged_out [.list (r.map enc3), .tuple [.str "out", .int t.1, .list (WS.map encI)], .none, .none, .none, .none] = _
    unfold g_judged_out
    refine seq_step (ρ' := [.list (r.map enc3), .tuple [.str "out", .int t.1, .list (WS.map encI)], .str "out", .int t.1, .list (WS.map encI), .none]) (asg_ok (by rfl) (by rfl)) ?_
    generalize hP : PyData.tuple [.str "out", .int t.1, .list (WS.map encI)] = P
    have c3 : gCallN 1 f_is_whole (gCons (gVar 3) (gNil)) [.list (r.map enc3), P, .str "out", .int t.1, .list (WS.map encI), .none] = .ok (.bool true) := callN_ok (ds := [.int t.1]) rfl rfl (whole_int t.1)
    refine seq_step ((if_f ?_).trans rfl) ?_
    · rw [gOr_def, gTest_def, gOp_def]
      have : bnd (hNe (.str "out") (.str "out")) asB = .ok false := by rw [hNe_str sh_str.2.2.1 sh_str.2.2.1]; rfl
      refine (congrArg (fun z => bnd z _) this).trans ?_
      simp only [bnd_ok, Bool.false_eq_true, if_false]
      rw [gNot_def, gTest_def, c3]
      rfl
    exact seq_rt (for_ok (ds := r.map enc3) (seqG_l (by rfl)) (out_loop ho hl ht hn h h1 P (.str "out") r .none (fun _ h => h) ht))
  refine fnN_rt ?_
  show g_judged [.int n, .list (r.map enc3), .tuple [.str "out", .int t.1, .list (WS.map encI)]] = _
  unfold g_judged
  refine seq_step ((if_f (by rfl)).trans rfl) ?_
  refine seq_rt ((if_t (by rfl)).trans (ret_ok (callN_ok (ds := [.list (r.map enc3), .tuple [.str "out", .int t.1, .list (WS.map encI)]]) rfl rfl hp)))
end K59
end T_K59S

section T_K59T
set_option linter.all false
set_option maxRecDepth 100000
set_option maxHeartbeats 4000000
/-! K59T: strands. -/
namespace K59
open PySem Sim FamA Lay FamL

theorem layer_mem {w : T3} {r : List T3} {ns : List Int} {j : Int} (h : w ∈ layer j r ns) : (w, j) ∈ r.zip ns := by
  unfold layer at h
  obtain ⟨p, hp, rfl⟩ := List.mem_map.mp h
  obtain ⟨h1, h2⟩ := List.mem_filter.mp hp
  rw [beq_iff_eq] at h2
  rw [← h2]
  exact h1
theorem layer_apart {r : List T3} {ns : List Int} (ho : r.Pairwise fun s t => s.1 < t.1) {u v : T3} {x y : Int} (hu : u ∈ layer x r ns) (hv : v ∈ layer y r ns) (e : u.1 = v.1) : x = y := by
  have key : ∀ (r : List T3) (ns : List Int), (r.Pairwise fun s t => s.1 < t.1) → (u, x) ∈ r.zip ns → (v, y) ∈ r.zip ns → x = y := by
    intro r
    induction r with
    | nil => intro ns _ h; cases h
    | cons t r ih =>
      intro ns ho hu hv
      obtain ⟨h1, h2⟩ := List.pairwise_cons.mp ho
      cases ns with
      | nil => cases hu
      | cons z ns =>
        rw [List.zip_cons_cons] at hu hv
        rcases List.mem_cons.mp hu with e1 | hu' <;> rcases List.mem_cons.mp hv with e2 | hv'
        · rw [Prod.mk.injEq] at e1 e2
          rw [e1.2, e2.2]
        · rw [Prod.mk.injEq] at e1
          have := h1 v (List.of_mem_zip hv').1
          rw [← e1.1] at this
          omega
        · rw [Prod.mk.injEq] at e2
          have := h1 u (List.of_mem_zip hu').1
          rw [← e2.1] at this
          omega
        · exact ih ns h2 hu' hv'
  exact key r ns ho (layer_mem hu) (layer_mem hv)
theorem zip_range (r : List T3) (ns : List Int) (h : ns.length = r.length) : r.zip ns = (List.range r.length).map fun i => (r.getD i (0, 0, 0), ns.getD i 0) := by
  apply List.ext_getElem
  · rw [List.length_zip, List.length_map, List.length_range, h, Nat.min_self]
  · intro i h1 h2
    rw [List.length_map, List.length_range] at h2
    rw [List.getElem_zip, List.getElem_map, List.getElem_range]
    rw [List.getD_eq_getElem?_getD, List.getD_eq_getElem?_getD, List.getElem?_eq_getElem h2, List.getElem?_eq_getElem (by omega)]
    rfl
theorem layer_range (j : Int) (r : List T3) (ns : List Int) (h : ns.length = r.length) : layer j r ns = ((List.range r.length).filter fun i => ns.getD i 0 == j).map fun i => r.getD i (0, 0, 0) := by
  unfold layer
  rw [zip_range r ns h, List.filter_map, List.map_map]
  rfl
theorem layer_sub (j : Int) (r : List T3) (ns : List Int) : (layer j r ns).Sublist r := by
  unfold layer
  induction r generalizing ns with
  | nil => exact List.nil_sublist _
  | cons t r ih =>
    cases ns with
    | nil => exact List.nil_sublist _
    | cons x ns =>
      rw [List.zip_cons_cons, List.filter_cons]
      split
      · exact (ih ns).cons₂ t
      · exact (ih ns).cons t
theorem strand_loop {n : Int} {k i0 : Nat} {r : List T3} (hin : InN n r) (ho : r.Pairwise fun s t => s.1 < t.1) (hl : r.length ≤ 60) (n10 : n ≤ 10) {ns : List Int} (hns : ns.length = r.length) (hat : i0 < r.length) {ah : Nat} (h6 : ah ≤ 6)
    (hc : ∀ j, j < ah → Conn (layer ((j : Int) + 1) (r.drop (i0 + 1)) (ns.drop (i0 + 1))) r[i0].2.1 r[i0].2.2) :
    ∃ WS y7 y8 y9, WOk (since (r[i0].1 + 1) r) r[i0].2.1 r[i0].2.2 WS ∧ WS.length = ah ∧
      forE (tgN 7) g_strands_L1 ((List.range ah).map fun (j : Nat) => PyData.int (1 + (j : Int))) [.int n, .list (r.map enc3), .int (k : Nat), .int (i0 : Nat), .list (ns.map .int), .int (ah : Nat), .list [], .none, .none, .none]
        = .ok (.nx [.int n, .list (r.map enc3), .int (k : Nat), .int (i0 : Nat), .list (ns.map .int), .int (ah : Nat), .list (WS.map encI), y7, y8, y9]) := by
  obtain ⟨⟨t0, t1⟩, u0, u1⟩ := hin r[i0] (List.getElem_mem hat)
  have hdrop : ∀ u ∈ r.drop (i0 + 1), u ∈ since (r[i0].1 + 1) r := fun u hu => by
    refine List.mem_filter.mpr ⟨List.mem_of_mem_drop hu, decide_eq_true ?_⟩
    have : (r.drop i0).Pairwise fun s t => s.1 < t.1 := ho.sublist (List.drop_sublist ..)
    rw [List.drop_eq_getElem_cons hat] at this
    have := (List.pairwise_cons.mp this).1 u hu
    omega
  have hod : (r.drop (i0 + 1)).Pairwise fun s t => s.1 < t.1 := ho.sublist (List.drop_sublist ..)
  have hnd : (ns.drop (i0 + 1)).length = (r.drop (i0 + 1)).length := by rw [List.length_drop, List.length_drop, hns]
  obtain ⟨ρ', hf, y7, y8, y9, WS, rfl, hW, hlen, _⟩ := forE_ix (fun (j : Nat) => PyData.int (1 + (j : Int))) (h := tgN 7) (b := g_strands_L1) (List.range ah)
    (fun i ρ => ∃ (x7 x8 x9 : Dt) (WS : List (List Int)), ρ = [.int n, .list (r.map enc3), .int (k : Nat), .int (i0 : Nat), .list (ns.map .int), .int (ah : Nat), .list (WS.map encI), x7, x8, x9] ∧ WOk (since (r[i0].1 + 1) r) r[i0].2.1 r[i0].2.2 WS ∧ WS.length = i ∧
      ∀ w ∈ WS, ∀ m ∈ w, ∃ j : Nat, j < i ∧ ∃ t ∈ layer ((j : Int) + 1) (r.drop (i0 + 1)) (ns.drop (i0 + 1)), t.1 = m)
    (ρ := [.int n, .list (r.map enc3), .int (k : Nat), .int (i0 : Nat), .list (ns.map .int), .int (ah : Nat), .list [], .none, .none, .none]) ⟨_, _, _, [], rfl, WOk.nil _ _ _, rfl, (fun w hw => nomatch hw)⟩ (by
      rintro i ρ hi ⟨x7, x8, x9, WS, rfl, hW, hlen, hM⟩
      rw [List.length_range] at hi
      rw [List.getElem_range]
      have hci := hc i hi
      generalize hT : layer ((i : Int) + 1) (r.drop (i0 + 1)) (ns.drop (i0 + 1)) = T at *
      have hTs : T.Sublist (r.drop (i0 + 1)) := hT ▸ layer_sub _ _ _
      have hTl : T.length ≤ r.length := by have := hTs.length_le; rw [List.length_drop] at this; omega
      have hTi : InN n T := fun t ht => hin t (List.mem_of_mem_drop (hTs.subset ht))
      have hTo : T.Pairwise fun s t => s.1 < t.1 := hod.sublist hTs
      obtain ⟨w, w1, w2, w3⟩ := way_in_ok hTo hTi (by omega) n10 t0 t1 hci
      have hTeq : T = ((List.range (r.length - (i0 + 1))).filter fun i' => (ns.drop (i0 + 1)).getD i' 0 == (1 + (i : Int))).map fun i' => (r.drop (i0 + 1)).getD i' (0, 0, 0) := by
        rw [← hT, show (i : Int) + 1 = 1 + (i : Int) by omega, layer_range _ _ _ hnd, List.length_drop]
      have hcomp : gLc (gRng2 (gCons (gOp hAdd (gVar 3) (gC (.int (1)))) (gCons (gCB hLen (gCons (gVar 1) (gNil))) (gNil)))) (tgN 9) (gTest (gOp hEq (gOp hIx (gVar 4) (gVar 9)) (gVar 7))) (gOp hIx (gVar 1) (gVar 9)) [.int n, .list (r.map enc3), .int (k : Nat), .int (i0 : Nat), .list (ns.map .int), .int (ah : Nat), .list (WS.map encI), .int (1 + (i : Int)), x8, x9]
          = .ok (.list (T.map enc3)) := by
        have hr : gRng2 (gCons (gOp hAdd (gVar 3) (gC (.int (1)))) (gCons (gCB hLen (gCons (gVar 1) (gNil))) (gNil))) [.int n, .list (r.map enc3), .int (k : Nat), .int (i0 : Nat), .list (ns.map .int), .int (ah : Nat), .list (WS.map encI), .int (1 + (i : Int)), x8, x9]
            = .ok ((List.range (r.length - (i0 + 1))).map fun (i' : Nat) => PyData.int ((i0 : Int) + 1 + (i' : Int))) := by
          rw [rng2_ok (i := (i0 : Int) + 1) (j := (r.length : Int)) (by simp only [bnd_ok, gVar_def, gC_def, gOp_def, gUn_def, gNil_def, gCons_def, gIf_def, gTest_def, gNot_def, gAnd_def, gOr_def, gAndV_def, gOrV_def, gNotV_def, gCB_def, asB_b, hAdd_i, hSub_i, hLt_i, hLe_i, hGt_i, hGe_i, hMul_r, hMul_l, hMod_i, hDiv_s, hBand_i, hShr_i, hPow_10_18, hPow_10_27, hPow_10_28, hPow_10_29, hPow_10_30, hEq_i, hNe_i, hLen_l, hLen_t, hMin2_i, hMax2_i, hMin3_i, hInt1_b, hInt1_i, hBits_i, hListOf_l, hListOf_t, hTupOf_l, hTupOf_t, gSeqS_def, gSet_def, gRet_def, gIfS_def, gNext_def, gTup_def, gLst_def, List.getElem?_cons_zero, List.getElem?_cons_succ, List.set_cons_zero, List.set_cons_succ, List.length_cons, List.length_nil, Nat.zero_add, Nat.reduceAdd, Nat.reduceLeDiff, Nat.reduceSub, Nat.reduceMul, if_true, if_false, Bool.false_eq_true, List.replicate_succ, List.replicate_zero, List.cons_append, List.nil_append, tgN, tgT, tgCons, tgNil, Int.reducePow, Int.reduceAdd, Int.reduceSub, Int.reduceMul, decide_true, decide_false, Bool.not_true, Bool.not_false, gChain_def, hIsa_int, hIsa_intb, hIsa_list, hIsa_tuple, gDrop_def, List.length_map]) (by omega) (by omega) (by omega) (by omega)]
          unfold rangeD
          rw [show ((r.length : Int) - ((i0 : Int) + 1)).toNat = r.length - (i0 + 1) by omega]
        rw [gLc_map (fun (i' : Nat) => PyData.int ((i0 : Int) + 1 + (i' : Int))) (fun i' => (ns.drop (i0 + 1)).getD i' 0 == (1 + (i : Int))) (fun i' => enc3 ((r.drop (i0 + 1)).getD i' (0, 0, 0))) hr (by rw [List.length_range]; omega) fun i' hi' => ?_, hTeq, List.map_map]
        · rfl
        · have hi' := List.mem_range.mp hi'
          have e1 : ((i0 : Int) + 1 + (i' : Int)).toNat = i0 + 1 + i' := by omega
          have i1 : hIx (.list (ns.map .int)) (.int ((i0 : Int) + 1 + (i' : Int))) = .ok (.int ((ns.drop (i0 + 1)).getD i' 0)) := by
            rw [hIx_ints (by omega) (by omega)]
            simp only [e1]
            rw [List.getD_eq_getElem?_getD, List.getElem?_drop, List.getElem?_eq_getElem (by omega)]
            rfl
          have i2 : hIx (.list (r.map enc3)) (.int ((i0 : Int) + 1 + (i' : Int))) = .ok (enc3 ((r.drop (i0 + 1)).getD i' (0, 0, 0))) := by
            refine (hIx_l (atI_map enc3 (by omega) (by omega))).trans ?_
            simp only [e1]
            rw [List.getD_eq_getElem?_getD, List.getElem?_drop, List.getElem?_eq_getElem (by omega)]
            rfl
          refine ⟨[.int n, .list (r.map enc3), .int (k : Nat), .int (i0 : Nat), .list (ns.map .int), .int (ah : Nat), .list (WS.map encI), .int (1 + (i : Int)), x8, .int ((i0 : Int) + 1 + (i' : Int))], rfl, ?_, fun _ => ?_⟩
          · simp only [bnd_ok, gVar_def, gC_def, gOp_def, gUn_def, gNil_def, gCons_def, gIf_def, gTest_def, gNot_def, gAnd_def, gOr_def, gAndV_def, gOrV_def, gNotV_def, gCB_def, asB_b, hAdd_i, hSub_i, hLt_i, hLe_i, hGt_i, hGe_i, hMul_r, hMul_l, hMod_i, hDiv_s, hBand_i, hShr_i, hPow_10_18, hPow_10_27, hPow_10_28, hPow_10_29, hPow_10_30, hEq_i, hNe_i, hLen_l, hLen_t, hMin2_i, hMax2_i, hMin3_i, hInt1_b, hInt1_i, hBits_i, hListOf_l, hListOf_t, hTupOf_l, hTupOf_t, gSeqS_def, gSet_def, gRet_def, gIfS_def, gNext_def, gTup_def, gLst_def, List.getElem?_cons_zero, List.getElem?_cons_succ, List.set_cons_zero, List.set_cons_succ, List.length_cons, List.length_nil, Nat.zero_add, Nat.reduceAdd, Nat.reduceLeDiff, Nat.reduceSub, Nat.reduceMul, if_true, if_false, Bool.false_eq_true, List.replicate_succ, List.replicate_zero, List.cons_append, List.nil_append, tgN, tgT, tgCons, tgNil, Int.reducePow, Int.reduceAdd, Int.reduceSub, Int.reduceMul, decide_true, decide_false, Bool.not_true, Bool.not_false, gChain_def, hIsa_int, hIsa_intb, hIsa_list, hIsa_tuple, gDrop_def, i1]
          · simp only [bnd_ok, gVar_def, gC_def, gOp_def, gUn_def, gNil_def, gCons_def, gIf_def, gTest_def, gNot_def, gAnd_def, gOr_def, gAndV_def, gOrV_def, gNotV_def, gCB_def, asB_b, hAdd_i, hSub_i, hLt_i, hLe_i, hGt_i, hGe_i, hMul_r, hMul_l, hMod_i, hDiv_s, hBand_i, hShr_i, hPow_10_18, hPow_10_27, hPow_10_28, hPow_10_29, hPow_10_30, hEq_i, hNe_i, hLen_l, hLen_t, hMin2_i, hMax2_i, hMin3_i, hInt1_b, hInt1_i, hBits_i, hListOf_l, hListOf_t, hTupOf_l, hTupOf_t, gSeqS_def, gSet_def, gRet_def, gIfS_def, gNext_def, gTup_def, gLst_def, List.getElem?_cons_zero, List.getElem?_cons_succ, List.set_cons_zero, List.set_cons_succ, List.length_cons, List.length_nil, Nat.zero_add, Nat.reduceAdd, Nat.reduceLeDiff, Nat.reduceSub, Nat.reduceMul, if_true, if_false, Bool.false_eq_true, List.replicate_succ, List.replicate_zero, List.cons_append, List.nil_append, tgN, tgT, tgCons, tgNil, Int.reducePow, Int.reduceAdd, Int.reduceSub, Int.reduceMul, decide_true, decide_false, Bool.not_true, Bool.not_false, gChain_def, hIsa_int, hIsa_intb, hIsa_list, hIsa_tuple, gDrop_def, i2]
      have hb : g_strands_L1 [.int n, .list (r.map enc3), .int (k : Nat), .int (i0 : Nat), .list (ns.map .int), .int (ah : Nat), .list (WS.map encI), .int (1 + (i : Int)), x8, x9]
          = .ok (.nx [.int n, .list (r.map enc3), .int (k : Nat), .int (i0 : Nat), .list (ns.map .int), .int (ah : Nat), .list ((WS ++ [w]).map encI), .int (1 + (i : Int)), .list (T.map enc3), x9]) := by
        unfold g_strands_L1
        refine seq_step (set_ok hcomp) ?_
        dsimp only [List.set]
        have i3 : hIx (.list (r.map enc3)) (.int (i0 : Nat)) = .ok (enc3 r[i0]) := by
          refine (hIx_l (atI_map enc3 (by omega) (by omega))).trans ?_
          simp only [Int.toNat_natCast]
        have hcall : gCallN 3 f_way_in (gCons (gVar 8) (gCons (gOp hIx (gOp hIx (gVar 1) (gVar 3)) (gC (.int (1)))) (gCons (gOp hIx (gOp hIx (gVar 1) (gVar 3)) (gC (.int (2)))) (gNil)))) [.int n, .list (r.map enc3), .int (k : Nat), .int (i0 : Nat), .list (ns.map .int), .int (ah : Nat), .list (WS.map encI), .int (1 + (i : Int)), .list (T.map enc3), x9] = .ok (encI w) := by
          refine callN_ok (ds := [.list (T.map enc3), .int r[i0].2.1, .int r[i0].2.2]) ?_ rfl w3
          simp only [bnd_ok, gVar_def, gC_def, gOp_def, gUn_def, gNil_def, gCons_def, gIf_def, gTest_def, gNot_def, gAnd_def, gOr_def, gAndV_def, gOrV_def, gNotV_def, gCB_def, asB_b, hAdd_i, hSub_i, hLt_i, hLe_i, hGt_i, hGe_i, hMul_r, hMul_l, hMod_i, hDiv_s, hBand_i, hShr_i, hPow_10_18, hPow_10_27, hPow_10_28, hPow_10_29, hPow_10_30, hEq_i, hNe_i, hLen_l, hLen_t, hMin2_i, hMax2_i, hMin3_i, hInt1_b, hInt1_i, hBits_i, hListOf_l, hListOf_t, hTupOf_l, hTupOf_t, gSeqS_def, gSet_def, gRet_def, gIfS_def, gNext_def, gTup_def, gLst_def, List.getElem?_cons_zero, List.getElem?_cons_succ, List.set_cons_zero, List.set_cons_succ, List.length_cons, List.length_nil, Nat.zero_add, Nat.reduceAdd, Nat.reduceLeDiff, Nat.reduceSub, Nat.reduceMul, if_true, if_false, Bool.false_eq_true, List.replicate_succ, List.replicate_zero, List.cons_append, List.nil_append, tgN, tgT, tgCons, tgNil, Int.reducePow, Int.reduceAdd, Int.reduceSub, Int.reduceMul, decide_true, decide_false, Bool.not_true, Bool.not_false, gChain_def, hIsa_int, hIsa_intb, hIsa_list, hIsa_tuple, gDrop_def, i3, ix3_1, ix3_2]
        refine Eq.trans (gApp_l (i := 6) (ds := WS.map encI) (d := encI w) rfl hcall (by rw [List.length_map]; omega)) ?_
        rw [List.map_append]
        rfl
      refine ⟨_, _, rfl, .inl hb, .int (1 + (i : Int)), .list (T.map enc3), x9, WS ++ [w], rfl, hW.snoc ?_ w2 fun m hm z => ?_, by rw [List.length_append, hlen]; rfl, fun x hx m hm => ?_⟩
      · exact goD_sub (since_ord ho _) (fun t ht => hdrop t (hTs.subset ht)) w _ w1
      · obtain ⟨x, hx, hmx⟩ := List.mem_flatten.mp z
        obtain ⟨j, hj, t, ht, e⟩ := hM x hx m hmx
        obtain ⟨u, hu, e'⟩ := goD_mem w _ w1 m hm
        rw [← hT] at hu
        have := layer_apart hod ht hu (by rw [e, e'])
        omega
      · rcases List.mem_append.mp hx with hx | hx
        · obtain ⟨j, hj, q⟩ := hM x hx m hm
          exact ⟨j, by omega, q⟩
        · rw [List.mem_singleton.mp hx] at hm
          obtain ⟨u, hu, e'⟩ := goD_mem w _ w1 m hm
          exact ⟨i, by omega, u, by rw [hT]; exact hu, e'⟩)
  rw [List.length_range] at hlen
  exact ⟨WS, y7, y8, y9, hW, hlen, hf⟩
theorem strands_ok {n : Int} {k i0 : Nat} {r : List T3} (hin : InN n r) (ho : r.Pairwise fun s t => s.1 < t.1) (hl : r.length ≤ 60) (n1 : 1 ≤ n) (n10 : n ≤ 10) (k1 : 1 ≤ k) (k6 : k ≤ 6) (hat : i0 < r.length) :
    ∃ WS, WOk (since (r[i0].1 + 1) r) r[i0].2.1 r[i0].2.2 WS ∧ WS.length ≤ 6 ∧ f_strands [.int n, .list (r.map enc3), .int (k : Nat), .int (i0 : Nat)] = .ok (.list (WS.map encI)) := by
  have hns := lay_len k r
  have hi0 : i0 < (lay k r).length := by omega
  have hx := (lay_iff k r (lay k r) hns).mp rfl i0 hat hi0
  have hd : DueP k (fun j => Conn (layer ((j : Int) + 1) (r.drop (i0 + 1)) ((lay k r).drop (i0 + 1))) r[i0].2.1 r[i0].2.2) ((lay k r)[i0]'hi0) := due_iff.mpr hx
  clear hx
  have hlay := layered_ok hin (by omega) n1 n10 k1 k6
  generalize lay k r = ns at *
  obtain ⟨x0, xk, D⟩ := hd
  have hix : hIx (.list (ns.map .int)) (.int (i0 : Nat)) = .ok (.int (ns[i0]'hi0)) := by
    rw [hIx_ints (by omega) (by omega)]
    simp only [Int.toNat_natCast]
  generalize ns[i0]'hi0 = x at *
  obtain ⟨ah, hah⟩ : ∃ ah : Nat, (ah : Int) = if x = 0 then (k : Int) else x - 1 := ⟨(if x = 0 then (k : Int) else x - 1).toNat, by split <;> omega⟩
  have h6 : ah ≤ 6 := by split at hah <;> omega
  have hk : ah ≤ k := by split at hah <;> omega
  obtain ⟨WS, y7, y8, y9, hW, hlen, hf⟩ := strand_loop (k := k) hin ho hl n10 hns hat h6 fun j hj => (D j (by omega)).1 (by rw [← hah]; omega)
  refine ⟨WS, hW, by omega, fnN_rt ?_⟩
  show g_strands [.int n, .list (r.map enc3), .int (k : Nat), .int (i0 : Nat), .none, .none, .none, .none, .none, .none] = _
  unfold g_strands
  refine seq_step (set_ok (callN_ok (ds := [.int n, .list (r.map enc3), .int (k : Nat)]) rfl rfl hlay)) ?_
  dsimp only [List.set]
  refine seq_step (set_ok (d := .int (x - 1)) (by simp only [bnd_ok, gVar_def, gC_def, gOp_def, gUn_def, gNil_def, gCons_def, gIf_def, gTest_def, gNot_def, gAnd_def, gOr_def, gAndV_def, gOrV_def, gNotV_def, gCB_def, asB_b, hAdd_i, hSub_i, hLt_i, hLe_i, hGt_i, hGe_i, hMul_r, hMul_l, hMod_i, hDiv_s, hBand_i, hShr_i, hPow_10_18, hPow_10_27, hPow_10_28, hPow_10_29, hPow_10_30, hEq_i, hNe_i, hLen_l, hLen_t, hMin2_i, hMax2_i, hMin3_i, hInt1_b, hInt1_i, hBits_i, hListOf_l, hListOf_t, hTupOf_l, hTupOf_t, gSeqS_def, gSet_def, gRet_def, gIfS_def, gNext_def, gTup_def, gLst_def, List.getElem?_cons_zero, List.getElem?_cons_succ, List.set_cons_zero, List.set_cons_succ, List.length_cons, List.length_nil, Nat.zero_add, Nat.reduceAdd, Nat.reduceLeDiff, Nat.reduceSub, Nat.reduceMul, if_true, if_false, Bool.false_eq_true, List.replicate_succ, List.replicate_zero, List.cons_append, List.nil_append, tgN, tgT, tgCons, tgNil, Int.reducePow, Int.reduceAdd, Int.reduceSub, Int.reduceMul, decide_true, decide_false, Bool.not_true, Bool.not_false, gChain_def, hIsa_int, hIsa_intb, hIsa_list, hIsa_tuple, gDrop_def, hix])) ?_
  dsimp only [List.set]
  refine seq_step (ρ' := [.int n, .list (r.map enc3), .int (k : Nat), .int (i0 : Nat), .list (ns.map .int), .int (ah : Nat), .none, .none, .none, .none]) ?_ ?_
  · by_cases c : x = 0
    · rw [if_pos c] at hah
      have e : (x == 0) = true := by simp [c]
      refine (if_t (by simp only [bnd_ok, gVar_def, gC_def, gOp_def, gUn_def, gNil_def, gCons_def, gIf_def, gTest_def, gNot_def, gAnd_def, gOr_def, gAndV_def, gOrV_def, gNotV_def, gCB_def, asB_b, hAdd_i, hSub_i, hLt_i, hLe_i, hGt_i, hGe_i, hMul_r, hMul_l, hMod_i, hDiv_s, hBand_i, hShr_i, hPow_10_18, hPow_10_27, hPow_10_28, hPow_10_29, hPow_10_30, hEq_i, hNe_i, hLen_l, hLen_t, hMin2_i, hMax2_i, hMin3_i, hInt1_b, hInt1_i, hBits_i, hListOf_l, hListOf_t, hTupOf_l, hTupOf_t, gSeqS_def, gSet_def, gRet_def, gIfS_def, gNext_def, gTup_def, gLst_def, List.getElem?_cons_zero, List.getElem?_cons_succ, List.set_cons_zero, List.set_cons_succ, List.length_cons, List.length_nil, Nat.zero_add, Nat.reduceAdd, Nat.reduceLeDiff, Nat.reduceSub, Nat.reduceMul, if_true, if_false, Bool.false_eq_true, List.replicate_succ, List.replicate_zero, List.cons_append, List.nil_append, tgN, tgT, tgCons, tgNil, Int.reducePow, Int.reduceAdd, Int.reduceSub, Int.reduceMul, decide_true, decide_false, Bool.not_true, Bool.not_false, gChain_def, hIsa_int, hIsa_intb, hIsa_list, hIsa_tuple, gDrop_def, hix, e])).trans ?_
      rw [hah]
      rfl
    · rw [if_neg c] at hah
      have e : (x == 0) = false := by simp [c]
      refine (if_f (by simp only [bnd_ok, gVar_def, gC_def, gOp_def, gUn_def, gNil_def, gCons_def, gIf_def, gTest_def, gNot_def, gAnd_def, gOr_def, gAndV_def, gOrV_def, gNotV_def, gCB_def, asB_b, hAdd_i, hSub_i, hLt_i, hLe_i, hGt_i, hGe_i, hMul_r, hMul_l, hMod_i, hDiv_s, hBand_i, hShr_i, hPow_10_18, hPow_10_27, hPow_10_28, hPow_10_29, hPow_10_30, hEq_i, hNe_i, hLen_l, hLen_t, hMin2_i, hMax2_i, hMin3_i, hInt1_b, hInt1_i, hBits_i, hListOf_l, hListOf_t, hTupOf_l, hTupOf_t, gSeqS_def, gSet_def, gRet_def, gIfS_def, gNext_def, gTup_def, gLst_def, List.getElem?_cons_zero, List.getElem?_cons_succ, List.set_cons_zero, List.set_cons_succ, List.length_cons, List.length_nil, Nat.zero_add, Nat.reduceAdd, Nat.reduceLeDiff, Nat.reduceSub, Nat.reduceMul, if_true, if_false, Bool.false_eq_true, List.replicate_succ, List.replicate_zero, List.cons_append, List.nil_append, tgN, tgT, tgCons, tgNil, Int.reducePow, Int.reduceAdd, Int.reduceSub, Int.reduceMul, decide_true, decide_false, Bool.not_true, Bool.not_false, gChain_def, hIsa_int, hIsa_intb, hIsa_list, hIsa_tuple, gDrop_def, hix, e])).trans ?_
      rw [hah]
      rfl
  refine seq_step (set_ok (d := .list []) (by rfl)) ?_
  dsimp only [List.set]
  refine seq_step (for_ok (ds := (List.range ah).map fun (j : Nat) => PyData.int (1 + (j : Int))) ?_ hf) ?_
  · rw [rng2_ok (i := 1) (j := (ah : Int) + 1) (by simp only [bnd_ok, gVar_def, gC_def, gOp_def, gUn_def, gNil_def, gCons_def, gIf_def, gTest_def, gNot_def, gAnd_def, gOr_def, gAndV_def, gOrV_def, gNotV_def, gCB_def, asB_b, hAdd_i, hSub_i, hLt_i, hLe_i, hGt_i, hGe_i, hMul_r, hMul_l, hMod_i, hDiv_s, hBand_i, hShr_i, hPow_10_18, hPow_10_27, hPow_10_28, hPow_10_29, hPow_10_30, hEq_i, hNe_i, hLen_l, hLen_t, hMin2_i, hMax2_i, hMin3_i, hInt1_b, hInt1_i, hBits_i, hListOf_l, hListOf_t, hTupOf_l, hTupOf_t, gSeqS_def, gSet_def, gRet_def, gIfS_def, gNext_def, gTup_def, gLst_def, List.getElem?_cons_zero, List.getElem?_cons_succ, List.set_cons_zero, List.set_cons_succ, List.length_cons, List.length_nil, Nat.zero_add, Nat.reduceAdd, Nat.reduceLeDiff, Nat.reduceSub, Nat.reduceMul, if_true, if_false, Bool.false_eq_true, List.replicate_succ, List.replicate_zero, List.cons_append, List.nil_append, tgN, tgT, tgCons, tgNil, Int.reducePow, Int.reduceAdd, Int.reduceSub, Int.reduceMul, decide_true, decide_false, Bool.not_true, Bool.not_false, gChain_def, hIsa_int, hIsa_intb, hIsa_list, hIsa_tuple, gDrop_def]) (by omega) (by omega) (by omega) (by omega)]
    unfold rangeD
    rw [show ((ah : Int) + 1 - 1).toNat = ah by omega]
  · rfl
end K59
end T_K59T

section T_K59V
set_option linter.all false
set_option maxRecDepth 100000
set_option maxHeartbeats 4000000
/-! K59V: the law's own helpers. -/
namespace K59
open PySem Sim FamA Lay FamL

theorem ways_ok {n a b : Int} {r : List T3} (ho : r.Pairwise fun s t => s.1 < t.1) (hr : InN n r) (hl : r.length ≤ 60) (n10 : n ≤ 10) (a0 : 0 ≤ a) (an : a < n) :
    ∃ WS, WOk r a b WS ∧ WS.length ≤ 100 ∧ f_l_ways [.list (r.map enc3), .int a, .int b] = .ok (.list (WS.map encI)) := by
  obtain ⟨ρ', hf, WS, lf, y5, y6, y7, rfl, hW, hlen, _⟩ := forE_ix (fun (j : Nat) => PyData.int (0 + (j : Int))) (h := tgN 5) (b := g_l_ways_L1) (List.range (r.length + 1))
    (fun i ρ => ∃ (WS : List (List Int)) (lf : List T3) (x5 x6 x7 : Dt), ρ = [.list (r.map enc3), .int a, .int b, .list (WS.map encI), .list (lf.map enc3), x5, x6, x7] ∧ WOk r a b WS ∧ WS.length ≤ i ∧ lf.Sublist r ∧ ∀ t ∈ lf, t.1 ∉ WS.flatten)
    (ρ := [.list (r.map enc3), .int a, .int b, .list [], .list (r.map enc3), .none, .none, .none]) ⟨[], r, _, _, _, rfl, WOk.nil _ _ _, Nat.le_refl _, List.Sublist.refl r, (fun t ht h => nomatch h)⟩ (by
      rintro i ρ hi ⟨WS, lf, x5, x6, x7, rfl, hW, hlen, hs, hD⟩
      rw [List.length_range] at hi
      rw [List.getElem_range]
      have hsl := hs.length_le
      have hlo : lf.Pairwise fun s t => s.1 < t.1 := ho.sublist hs
      obtain ⟨L, hB, hfw⟩ := free_way_ok (b := b) hlo (fun t ht => hr t (hs.subset ht)) (by omega) n10 a0 an
      have c1 : gCallN 3 f_l_free_way (gCons (gVar 4) (gCons (gVar 1) (gCons (gVar 2) (gNil)))) [.list (r.map enc3), .int a, .int b, .list (WS.map encI), .list (lf.map enc3), .int (0 + (i : Int)), x6, x7] = .ok (((wayOf L b).map fun w => PyData.list (w.map .int)).getD .none) := callN_ok (ds := [.list (lf.map enc3), .int a, .int b]) rfl rfl hfw
      cases ew : wayOf L b with
      | none =>
        rw [ew] at c1
        have c1 : gCallN 3 f_l_free_way (gCons (gVar 4) (gCons (gVar 1) (gCons (gVar 2) (gNil)))) [.list (r.map enc3), .int a, .int b, .list (WS.map encI), .list (lf.map enc3), .int (0 + (i : Int)), x6, x7] = .ok .none := c1
        refine ⟨_, _, rfl, .inl ?_, WS, lf, .int (0 + (i : Int)), .none, x7, rfl, hW, by omega, hs, hD⟩
        unfold g_l_ways_L1
        refine seq_step (set_ok c1) ?_
        dsimp only [List.set]
        exact (if_f (by rfl)).trans rfl
      | some w =>
        rw [ew] at c1
        have c1 : gCallN 3 f_l_free_way (gCons (gVar 4) (gCons (gVar 1) (gCons (gVar 2) (gNil)))) [.list (r.map enc3), .int a, .int b, .list (WS.map encI), .list (lf.map enc3), .int (0 + (i : Int)), x6, x7] = .ok (.list (w.map .int)) := c1
        have hm : (b, w) ∈ L := by
          unfold wayOf at ew
          cases hf : L.find? fun p => p.1 == b with
          | none => rw [hf] at ew; cases ew
          | some p =>
            rw [hf] at ew
            have h1 := List.find?_some hf
            rw [beq_iff_eq] at h1
            have h2 : p.2 = w := by injection ew
            rw [← h1, ← h2]
            exact List.mem_of_find?_eq_some hf
        obtain ⟨g1, g2⟩ := hB.go _ hm
        have hlc : gLc (gSeq (gVar 4)) (tgN 7) (gTest (gOp hNotIn (gOp hIx (gVar 7) (gC (.int (0)))) (gVar 6))) (gVar 7) [.list (r.map enc3), .int a, .int b, .list ((WS ++ [w]).map encI), .list (lf.map enc3), .int (0 + (i : Int)), .list (w.map .int), x7]
            = .ok (.list ((lf.filter fun t => !decide (t.1 ∈ w)).map enc3)) :=
          gLc_map enc3 (fun t => !decide (t.1 ∈ w)) enc3 (xs := lf) (by rfl) (by omega) fun t _ => ⟨[.list (r.map enc3), .int a, .int b, .list ((WS ++ [w]).map encI), .list (lf.map enc3), .int (0 + (i : Int)), .list (w.map .int), enc3 t], rfl, by simp only [bnd_ok, gVar_def, gC_def, gOp_def, gUn_def, gNil_def, gCons_def, gIf_def, gTest_def, gNot_def, gAnd_def, gOr_def, gAndV_def, gOrV_def, gNotV_def, gCB_def, asB_b, hAdd_i, hSub_i, hLt_i, hLe_i, hGt_i, hGe_i, hMul_r, hMul_l, hMod_i, hDiv_s, hBand_i, hShr_i, hPow_10_18, hPow_10_27, hPow_10_28, hPow_10_29, hPow_10_30, hEq_i, hNe_i, hLen_l, hLen_t, hMin2_i, hMax2_i, hMin3_i, hInt1_b, hInt1_i, hBits_i, hListOf_l, hListOf_t, hTupOf_l, hTupOf_t, gSeqS_def, gSet_def, gRet_def, gIfS_def, gNext_def, gTup_def, gLst_def, List.getElem?_cons_zero, List.getElem?_cons_succ, List.set_cons_zero, List.set_cons_succ, List.length_cons, List.length_nil, Nat.zero_add, Nat.reduceAdd, Nat.reduceLeDiff, Nat.reduceSub, Nat.reduceMul, if_true, if_false, Bool.false_eq_true, List.replicate_succ, List.replicate_zero, List.cons_append, List.nil_append, tgN, tgT, tgCons, tgNil, Int.reducePow, Int.reduceAdd, Int.reduceSub, Int.reduceMul, decide_true, decide_false, Bool.not_true, Bool.not_false, gChain_def, hIsa_int, hIsa_intb, hIsa_list, hIsa_tuple, gDrop_def, ix3_0, hNotIn_ints], fun _ => rfl⟩
        have hmw : ∀ m ∈ w, m ∉ WS.flatten := fun m hm => by
          obtain ⟨t, ht, e⟩ := goD_mem w _ g1 m hm
          rw [← e]
          exact hD t ht
        refine ⟨_, _, rfl, .inl ?_, WS ++ [w], lf.filter fun t => !decide (t.1 ∈ w), .int (0 + (i : Int)), .list (w.map .int), x7, rfl, hW.snoc (goD_sub ho (fun t ht => hs.subset ht) w _ g1) g2 hmw, by rw [List.length_append]; have : [w].length = 1 := rfl; omega, List.filter_sublist.trans hs, fun t ht z => ?_⟩
        · unfold g_l_ways_L1
          refine seq_step (set_ok c1) ?_
          dsimp only [List.set]
          refine (if_t (by rfl)).trans ?_
          refine seq_step (ρ' := [.list (r.map enc3), .int a, .int b, .list ((WS ++ [w]).map encI), .list (lf.map enc3), .int (0 + (i : Int)), .list (w.map .int), x7]) ?_ (set_ok hlc)
          refine Eq.trans (gApp_l (i := 3) (ds := WS.map encI) (d := encI w) rfl rfl (by rw [List.length_map]; omega)) ?_
          rw [List.map_append]
          rfl
        · obtain ⟨h1, h2⟩ := List.mem_filter.mp ht
          have h2 : t.1 ∉ w := by simpa using h2
          rw [List.flatten_append] at z
          rcases List.mem_append.mp z with z | z
          · exact hD t h1 z
          · exact h2 (by simpa using z))
  rw [List.length_range] at hlen
  refine ⟨WS, hW, by omega, fnN_rt ?_⟩
  show g_l_ways [.list (r.map enc3), .int a, .int b, .none, .none, .none, .none, .none] = _
  unfold g_l_ways
  refine seq_step (set_ok (d := .list []) (by rfl)) ?_
  dsimp only [List.set]
  refine seq_step (set_ok (d := .list (r.map enc3)) (by rfl)) ?_
  dsimp only [List.set]
  refine seq_step (for_ok (ds := (List.range (r.length + 1)).map fun (j : Nat) => PyData.int (0 + (j : Int))) ?_ hf) ?_
  · rw [rng1_ok (j := (r.length : Int) + 1) (by simp only [bnd_ok, gVar_def, gC_def, gOp_def, gUn_def, gNil_def, gCons_def, gIf_def, gTest_def, gNot_def, gAnd_def, gOr_def, gAndV_def, gOrV_def, gNotV_def, gCB_def, asB_b, hAdd_i, hSub_i, hLt_i, hLe_i, hGt_i, hGe_i, hMul_r, hMul_l, hMod_i, hDiv_s, hBand_i, hShr_i, hPow_10_18, hPow_10_27, hPow_10_28, hPow_10_29, hPow_10_30, hEq_i, hNe_i, hLen_l, hLen_t, hMin2_i, hMax2_i, hMin3_i, hInt1_b, hInt1_i, hBits_i, hListOf_l, hListOf_t, hTupOf_l, hTupOf_t, gSeqS_def, gSet_def, gRet_def, gIfS_def, gNext_def, gTup_def, gLst_def, List.getElem?_cons_zero, List.getElem?_cons_succ, List.set_cons_zero, List.set_cons_succ, List.length_cons, List.length_nil, Nat.zero_add, Nat.reduceAdd, Nat.reduceLeDiff, Nat.reduceSub, Nat.reduceMul, if_true, if_false, Bool.false_eq_true, List.replicate_succ, List.replicate_zero, List.cons_append, List.nil_append, tgN, tgT, tgCons, tgNil, Int.reducePow, Int.reduceAdd, Int.reduceSub, Int.reduceMul, decide_true, decide_false, Bool.not_true, Bool.not_false, gChain_def, hIsa_int, hIsa_intb, hIsa_list, hIsa_tuple, gDrop_def, List.length_map]) (by omega) (by omega)]
    unfold rangeD
    rw [show ((r.length : Int) + 1 - 0).toNat = r.length + 1 by omega]
  · rfl
def encT (s : List Int) : Dt := .tuple (s.map .int)
structure SideOk (n a b : Int) (s : List Int) : Prop where
  rg : ∀ p ∈ s, 0 ≤ p ∧ p < n
  up : s.Pairwise (· < ·)
  len : s.length ≤ 1000
  ha : a ∈ s
  hb : b ∉ s
theorem sides_ok {n a b x : Int} (n10 : n ≤ 10) (a0 : 0 ≤ a) (an : a < n) (hab : a ≠ b) : ∃ SS : List (List Int), (∀ s ∈ SS, SideOk n a b s) ∧ f_l_sides [.int n, .int a, .int b, .int x] = .ok (.list (SS.map encT)) := by
  obtain ⟨ρ', hf, SS, y5, y6, y7, y8, rfl, hS, hlen⟩ := forE_ix (fun (j : Nat) => PyData.int (0 + (j : Int))) (h := tgN 5) (b := g_l_sides_L1) (List.range 6)
    (fun i ρ => ∃ (SS : List (List Int)) (x5 x6 x7 x8 : Dt), ρ = [.int n, .int a, .int b, .int x, .list (SS.map encT), x5, x6, x7, x8] ∧ (∀ s ∈ SS, SideOk n a b s) ∧ SS.length = i)
    (ρ := [.int n, .int a, .int b, .int x, .list [], .none, .none, .none, .none]) ⟨[], _, _, _, _, rfl, (fun s hs => nomatch hs), rfl⟩ (by
      rintro i ρ hi ⟨SS, x5, x6, x7, x8, rfl, hS, hlen⟩
      rw [List.length_range] at hi
      rw [List.getElem_range]
      have h10 : (0 : Int) ≤ 10 * (0 + (i : Int)) := by omega
      have h1 : gOp hShr (gVar 3) (gOp hMul (gC (.int (10))) (gVar 5)) [.int n, .int a, .int b, .int x, .list (SS.map encT), .int (0 + (i : Int)), x6, x7, x8] = .ok (.int (x / 2 ^ (10 * (0 + (i : Int))).toNat)) := by
        simp (disch := omega) only [bnd_ok, gVar_def, gC_def, gOp_def, gUn_def, gNil_def, gCons_def, gIf_def, gTest_def, gNot_def, gAnd_def, gOr_def, gAndV_def, gOrV_def, gNotV_def, gCB_def, asB_b, hAdd_i, hSub_i, hLt_i, hLe_i, hGt_i, hGe_i, hMul_r, hMul_l, hMod_i, hDiv_s, hBand_i, hShr_i, hPow_10_18, hPow_10_27, hPow_10_28, hPow_10_29, hPow_10_30, hEq_i, hNe_i, hLen_l, hLen_t, hMin2_i, hMax2_i, hMin3_i, hInt1_b, hInt1_i, hBits_i, hListOf_l, hListOf_t, hTupOf_l, hTupOf_t, gSeqS_def, gSet_def, gRet_def, gIfS_def, gNext_def, gTup_def, gLst_def, List.getElem?_cons_zero, List.getElem?_cons_succ, List.set_cons_zero, List.set_cons_succ, List.length_cons, List.length_nil, Nat.zero_add, Nat.reduceAdd, Nat.reduceLeDiff, Nat.reduceSub, Nat.reduceMul, if_true, if_false, Bool.false_eq_true, List.replicate_succ, List.replicate_zero, List.cons_append, List.nil_append, tgN, tgT, tgCons, tgNil, Int.reducePow, Int.reduceAdd, Int.reduceSub, Int.reduceMul, decide_true, decide_false, Bool.not_true, Bool.not_false, gChain_def, hIsa_int, hIsa_intb, hIsa_list, hIsa_tuple, gDrop_def]
      generalize x / 2 ^ (10 * (0 + (i : Int))).toNat = y at h1
      have hlc : gLc (gRng1 (gCons (gVar 0) (gNil))) (tgN 8) (gOr (gTest (gOp hEq (gVar 8) (gVar 1))) (gAnd (gTest (gOp hNe (gVar 8) (gVar 2))) (gTest (gOp hEq (gOp hBand (gOp hShr (gVar 6) (gVar 8)) (gC (.int (1)))) (gC (.int (1))))))) (gVar 8) [.int n, .int a, .int b, .int x, .list (SS.map encT), .int (0 + (i : Int)), .int y, x7, x8]
          = .ok (.list (((pl n).filter fun p => (p == a) || (!(p == b) && (Builtin.bitAnd (y / 2 ^ p.toNat) 1 == 1))).map PyData.int)) := by
        refine gLc_map PyData.int _ PyData.int (xs := pl n) ?_ (by rw [pl_len]; omega) fun p hp => ⟨[.int n, .int a, .int b, .int x, .list (SS.map encT), .int (0 + (i : Int)), .int y, x7, .int p], rfl, ?_, fun _ => rfl⟩
        · exact ((rng1_ok (j := n) (by rfl) (by omega) (by omega)).trans (by rw [rangeD_pl]))
        · have hp := mem_pl.mp hp
          cases e1 : (p == a)
          · cases e2 : (p == b)
            · simp (disch := omega) only [bnd_ok, gVar_def, gC_def, gOp_def, gUn_def, gNil_def, gCons_def, gIf_def, gTest_def, gNot_def, gAnd_def, gOr_def, gAndV_def, gOrV_def, gNotV_def, gCB_def, asB_b, hAdd_i, hSub_i, hLt_i, hLe_i, hGt_i, hGe_i, hMul_r, hMul_l, hMod_i, hDiv_s, hBand_i, hShr_i, hPow_10_18, hPow_10_27, hPow_10_28, hPow_10_29, hPow_10_30, hEq_i, hNe_i, hLen_l, hLen_t, hMin2_i, hMax2_i, hMin3_i, hInt1_b, hInt1_i, hBits_i, hListOf_l, hListOf_t, hTupOf_l, hTupOf_t, gSeqS_def, gSet_def, gRet_def, gIfS_def, gNext_def, gTup_def, gLst_def, List.getElem?_cons_zero, List.getElem?_cons_succ, List.set_cons_zero, List.set_cons_succ, List.length_cons, List.length_nil, Nat.zero_add, Nat.reduceAdd, Nat.reduceLeDiff, Nat.reduceSub, Nat.reduceMul, if_true, if_false, Bool.false_eq_true, List.replicate_succ, List.replicate_zero, List.cons_append, List.nil_append, tgN, tgT, tgCons, tgNil, Int.reducePow, Int.reduceAdd, Int.reduceSub, Int.reduceMul, decide_true, decide_false, Bool.not_true, Bool.not_false, gChain_def, hIsa_int, hIsa_intb, hIsa_list, hIsa_tuple, gDrop_def, e1, e2]
              rfl
            · simp (disch := omega) only [bnd_ok, gVar_def, gC_def, gOp_def, gUn_def, gNil_def, gCons_def, gIf_def, gTest_def, gNot_def, gAnd_def, gOr_def, gAndV_def, gOrV_def, gNotV_def, gCB_def, asB_b, hAdd_i, hSub_i, hLt_i, hLe_i, hGt_i, hGe_i, hMul_r, hMul_l, hMod_i, hDiv_s, hBand_i, hShr_i, hPow_10_18, hPow_10_27, hPow_10_28, hPow_10_29, hPow_10_30, hEq_i, hNe_i, hLen_l, hLen_t, hMin2_i, hMax2_i, hMin3_i, hInt1_b, hInt1_i, hBits_i, hListOf_l, hListOf_t, hTupOf_l, hTupOf_t, gSeqS_def, gSet_def, gRet_def, gIfS_def, gNext_def, gTup_def, gLst_def, List.getElem?_cons_zero, List.getElem?_cons_succ, List.set_cons_zero, List.set_cons_succ, List.length_cons, List.length_nil, Nat.zero_add, Nat.reduceAdd, Nat.reduceLeDiff, Nat.reduceSub, Nat.reduceMul, if_true, if_false, Bool.false_eq_true, List.replicate_succ, List.replicate_zero, List.cons_append, List.nil_append, tgN, tgT, tgCons, tgNil, Int.reducePow, Int.reduceAdd, Int.reduceSub, Int.reduceMul, decide_true, decide_false, Bool.not_true, Bool.not_false, gChain_def, hIsa_int, hIsa_intb, hIsa_list, hIsa_tuple, gDrop_def, e1, e2]
              rfl
          · simp (disch := omega) only [bnd_ok, gVar_def, gC_def, gOp_def, gUn_def, gNil_def, gCons_def, gIf_def, gTest_def, gNot_def, gAnd_def, gOr_def, gAndV_def, gOrV_def, gNotV_def, gCB_def, asB_b, hAdd_i, hSub_i, hLt_i, hLe_i, hGt_i, hGe_i, hMul_r, hMul_l, hMod_i, hDiv_s, hBand_i, hShr_i, hPow_10_18, hPow_10_27, hPow_10_28, hPow_10_29, hPow_10_30, hEq_i, hNe_i, hLen_l, hLen_t, hMin2_i, hMax2_i, hMin3_i, hInt1_b, hInt1_i, hBits_i, hListOf_l, hListOf_t, hTupOf_l, hTupOf_t, gSeqS_def, gSet_def, gRet_def, gIfS_def, gNext_def, gTup_def, gLst_def, List.getElem?_cons_zero, List.getElem?_cons_succ, List.set_cons_zero, List.set_cons_succ, List.length_cons, List.length_nil, Nat.zero_add, Nat.reduceAdd, Nat.reduceLeDiff, Nat.reduceSub, Nat.reduceMul, if_true, if_false, Bool.false_eq_true, List.replicate_succ, List.replicate_zero, List.cons_append, List.nil_append, tgN, tgT, tgCons, tgNil, Int.reducePow, Int.reduceAdd, Int.reduceSub, Int.reduceMul, decide_true, decide_false, Bool.not_true, Bool.not_false, gChain_def, hIsa_int, hIsa_intb, hIsa_list, hIsa_tuple, gDrop_def, e1]
            rfl
      generalize hs : ((pl n).filter fun p => (p == a) || (!(p == b) && (Builtin.bitAnd (y / 2 ^ p.toNat) 1 == 1))) = s at hlc
      have hok : SideOk n a b s := by
        subst hs
        refine ⟨fun p hp => mem_pl.mp (List.mem_filter.mp hp).1, (pl_sorted n).filter _, ?_, ?_, ?_⟩
        · have := List.length_filter_le (fun p => (p == a) || (!(p == b) && (Builtin.bitAnd (y / 2 ^ p.toNat) 1 == 1))) (pl n)
          rw [pl_len] at this
          omega
        · exact List.mem_filter.mpr ⟨mem_pl.mpr ⟨a0, an⟩, by simp⟩
        · intro z
          have z := (List.mem_filter.mp z).2
          have e1 : (b == a) = false := beq_eq_false_iff_ne.mpr (Ne.symm hab)
          rw [e1] at z
          simp at z
      refine ⟨_, _, rfl, .inl ?_, SS ++ [s], .int (0 + (i : Int)), .int y, .list (s.map .int), x8, rfl, fun t ht => ?_, by rw [List.length_append, hlen]; rfl⟩
      · unfold g_l_sides_L1
        refine seq_step (set_ok h1) ?_
        dsimp only [List.set]
        refine seq_step (set_ok hlc) ?_
        dsimp only [List.set]
        refine Eq.trans (gApp_l (i := 4) (ds := SS.map encT) (d := encT s) rfl rfl (by rw [List.length_map]; omega)) ?_
        rw [List.map_append]
        rfl
      · rcases List.mem_append.mp ht with ht | ht
        · exact hS t ht
        · rw [List.mem_singleton.mp ht]; exact hok)
  refine ⟨SS, hS, fnL_rt ?_⟩
  show g_l_sides [.int n, .int a, .int b, .int x, .none, .none, .none, .none, .none] = _
  unfold g_l_sides
  refine seq_step (set_ok (d := .list []) (by rfl)) ?_
  dsimp only [List.set]
  refine seq_step (for_ok (ds := (List.range 6).map fun (j : Nat) => PyData.int (0 + (j : Int))) ?_ hf) ?_
  · rw [rng1_ok (j := 6) (by rfl) (by omega) (by omega)]
    rfl
  · rfl
theorem pair_shaped {s : Str} (h : SeqAt.shaped (.str s) = true) (x : Int) : SeqAt.shaped (.tuple [.str s, .int x]) = true := by
  simp [SeqAt.shaped, PyData.canLay0, PyData.canLayAll0, PyData.depth, PyData.depthAll] at h ⊢
  exact h
theorem hNe_pair {s : Str} (h : SeqAt.shaped (.str s) = true) (x : Int) : hNe (.tuple [.str s, .int x]) (.tuple [.str s, .int x]) = .ok (.bool false) := by
  unfold hNe
  rw [pair_shaped h]
  simp [PyData.eqv, PyData.eqvAll]
theorem young_len (r : List T3) (t : Int) (s : List Int) : (r.filter fun u => decide (t ≤ u.1) && rimC s u).length = (rimM (since t r) s).length := by
  unfold rimM since
  rw [List.length_map, List.filter_filter]
  congr 1
  refine List.filter_congr fun u _ => ?_
  rw [Bool.and_comm]
theorem strands_right_ok {n x : Int} {k i0 : Nat} {r : List T3} (hin : InN n r) (ho : r.Pairwise fun s t => s.1 < t.1) (hl : r.length ≤ 60) (n1 : 1 ≤ n) (n10 : n ≤ 10) (k1 : 1 ≤ k) (k6 : k ≤ 6) (hat : i0 < r.length) (hne : r[i0].2.1 ≠ r[i0].2.2) :
    f_l_strands_right [.int n, .list (r.map enc3), .int (k : Nat), .int (i0 : Nat), .int x] = .ok (.bool true) := by
  obtain ⟨WS, hW, hWl, hst⟩ := strands_ok hin ho hl n1 n10 k1 k6 hat
  obtain ⟨⟨t0, t1⟩, u0, u1⟩ := hin r[i0] (List.getElem_mem hat)
  obtain ⟨SS, hS, hsd⟩ := sides_ok (x := x) n10 t0 t1 hne
  have hj := judged_out (n := n) ho hl (List.getElem_mem hat) hne hW (by omega)
  have i3 : hIx (.list (r.map enc3)) (.int (i0 : Nat)) = .ok (enc3 r[i0]) := by
    refine (hIx_l (atI_map enc3 (by omega) (by omega))).trans ?_
    simp only [Int.toNat_natCast]
  generalize r[i0] = t at *
  refine fnN_rt ?_
  show g_l_strands_right [.int n, .list (r.map enc3), .int (k : Nat), .int (i0 : Nat), .int x, .none, .none, .none, .none, .none, .none, .none] = _
  unfold g_l_strands_right
  refine seq_step (ρ' := [.int n, .list (r.map enc3), .int (k : Nat), .int (i0 : Nat), .int x, .int t.1, .int t.2.1, .int t.2.2, .none, .none, .none, .none]) (asg_ok (d := enc3 t) (by simp only [bnd_ok, gVar_def, gC_def, gOp_def, gUn_def, gNil_def, gCons_def, gIf_def, gTest_def, gNot_def, gAnd_def, gOr_def, gAndV_def, gOrV_def, gNotV_def, gCB_def, asB_b, hAdd_i, hSub_i, hLt_i, hLe_i, hGt_i, hGe_i, hMul_r, hMul_l, hMod_i, hDiv_s, hBand_i, hShr_i, hPow_10_18, hPow_10_27, hPow_10_28, hPow_10_29, hPow_10_30, hEq_i, hNe_i, hLen_l, hLen_t, hMin2_i, hMax2_i, hMin3_i, hInt1_b, hInt1_i, hBits_i, hListOf_l, hListOf_t, hTupOf_l, hTupOf_t, gSeqS_def, gSet_def, gRet_def, gIfS_def, gNext_def, gTup_def, gLst_def, List.getElem?_cons_zero, List.getElem?_cons_succ, List.set_cons_zero, List.set_cons_succ, List.length_cons, List.length_nil, Nat.zero_add, Nat.reduceAdd, Nat.reduceLeDiff, Nat.reduceSub, Nat.reduceMul, if_true, if_false, Bool.false_eq_true, List.replicate_succ, List.replicate_zero, List.cons_append, List.nil_append, tgN, tgT, tgCons, tgNil, Int.reducePow, Int.reduceAdd, Int.reduceSub, Int.reduceMul, decide_true, decide_false, Bool.not_true, Bool.not_false, gChain_def, hIsa_int, hIsa_intb, hIsa_list, hIsa_tuple, gDrop_def, i3]) (by rfl)) ?_
  refine seq_step (set_ok (callN_ok (ds := [.int n, .list (r.map enc3), .int (k : Nat), .int (i0 : Nat)]) rfl rfl hst)) ?_
  dsimp only [List.set]
  refine seq_step ((if_f ?_).trans rfl) ?_
  · have c1 : gCallN 3 f_judged (gCons (gVar 0) (gCons (gVar 1) (gCons (gTup (gCons (gC (.str "out")) (gCons (gVar 5) (gCons (gVar 8) (gNil))))) (gNil)))) [.int n, .list (r.map enc3), .int (k : Nat), .int (i0 : Nat), .int x, .int t.1, .int t.2.1, .int t.2.2, .list (WS.map encI), .none, .none, .none] = .ok (.tuple [.str "out", .int WS.length]) := by
      refine callN_ok (ds := [.int n, .list (r.map enc3), .tuple [.str "out", .int t.1, .list (WS.map encI)]]) ?_ rfl hj
      have e : gTup (gCons (gC (.str "out")) (gCons (gVar 5) (gCons (gVar 8) (gNil)))) [.int n, .list (r.map enc3), .int (k : Nat), .int (i0 : Nat), .int x, .int t.1, .int t.2.1, .int t.2.2, .list (WS.map encI), .none, .none, .none] = .ok (.tuple [.str "out", .int t.1, .list (WS.map encI)]) := gTup_ok (xs := [.str "out", .int t.1, .list (WS.map encI)]) (by rfl) (by simp)
      rw [gCons_def, gVar_def]
      show bnd (O.ok (PyData.int n)) _ = _
      rw [bnd_ok, gCons_def, gVar_def]
      show bnd (bnd (O.ok (PyData.list (r.map enc3))) _) _ = _
      rw [bnd_ok, gCons_def, e]
      rfl
    have c2 : gTup (gCons (gC (.str "out")) (gCons (gCB hLen (gCons (gVar 8) (gNil))) (gNil))) [.int n, .list (r.map enc3), .int (k : Nat), .int (i0 : Nat), .int x, .int t.1, .int t.2.1, .int t.2.2, .list (WS.map encI), .none, .none, .none] = .ok (.tuple [.str "out", .int WS.length]) := gTup_ok (xs := [.str "out", .int WS.length]) (by simp only [bnd_ok, gVar_def, gC_def, gOp_def, gUn_def, gNil_def, gCons_def, gIf_def, gTest_def, gNot_def, gAnd_def, gOr_def, gAndV_def, gOrV_def, gNotV_def, gCB_def, asB_b, hAdd_i, hSub_i, hLt_i, hLe_i, hGt_i, hGe_i, hMul_r, hMul_l, hMod_i, hDiv_s, hBand_i, hShr_i, hPow_10_18, hPow_10_27, hPow_10_28, hPow_10_29, hPow_10_30, hEq_i, hNe_i, hLen_l, hLen_t, hMin2_i, hMax2_i, hMin3_i, hInt1_b, hInt1_i, hBits_i, hListOf_l, hListOf_t, hTupOf_l, hTupOf_t, gSeqS_def, gSet_def, gRet_def, gIfS_def, gNext_def, gTup_def, gLst_def, List.getElem?_cons_zero, List.getElem?_cons_succ, List.set_cons_zero, List.set_cons_succ, List.length_cons, List.length_nil, Nat.zero_add, Nat.reduceAdd, Nat.reduceLeDiff, Nat.reduceSub, Nat.reduceMul, if_true, if_false, Bool.false_eq_true, List.replicate_succ, List.replicate_zero, List.cons_append, List.nil_append, tgN, tgT, tgCons, tgNil, Int.reducePow, Int.reduceAdd, Int.reduceSub, Int.reduceMul, decide_true, decide_false, Bool.not_true, Bool.not_false, gChain_def, hIsa_int, hIsa_intb, hIsa_list, hIsa_tuple, gDrop_def, List.length_map]) (by simp)
    rw [gTest_def, gOp_def, c1, bnd_ok, c2, bnd_ok, hNe_pair sh_str.2.2.1]
    rfl
  have hloop := forE_all encT (h := tgN 9) (b := g_l_strands_right_L1) (fun s => WS.length ≤ (rimM (since (t.1 + 1) r) s).length)
    (fun ρ => ∃ x9 x10 x11, ρ = [.int n, .list (r.map enc3), .int (k : Nat), .int (i0 : Nat), .int x, .int t.1, .int t.2.1, .int t.2.2, .list (WS.map encI), x9, x10, x11]) SS _ ⟨.none, .none, .none, rfl⟩ (by
      rintro s hs ρ ⟨x9, x10, x11, rfl⟩
      have hle := ways_le hW (hS s hs).ha (hS s hs).hb
      have hlc : gLc (gSeq (gVar 1)) (tgN 11) (gAnd (gTest (gOp hGt (gOp hIx (gVar 11) (gC (.int (0)))) (gVar 5))) (gTest (gOp hNe (gOp hIn (gOp hIx (gVar 11) (gC (.int (1)))) (gVar 9)) (gOp hIn (gOp hIx (gVar 11) (gC (.int (2)))) (gVar 9))))) (gVar 11) [.int n, .list (r.map enc3), .int (k : Nat), .int (i0 : Nat), .int x, .int t.1, .int t.2.1, .int t.2.2, .list (WS.map encI), encT s, x10, x11]
          = .ok (.list ((r.filter fun u => decide (t.1 + 1 ≤ u.1) && rimC s u).map enc3)) := by
        refine gLc_map enc3 (fun u => decide (t.1 + 1 ≤ u.1) && rimC s u) enc3 (xs := r) (by rfl) (by omega) fun u _ => ⟨[.int n, .list (r.map enc3), .int (k : Nat), .int (i0 : Nat), .int x, .int t.1, .int t.2.1, .int t.2.2, .list (WS.map encI), encT s, x10, enc3 u], rfl, ?_, fun _ => rfl⟩
        have e : decide (t.1 < u.1) = decide (t.1 + 1 ≤ u.1) := by
          by_cases c : t.1 < u.1
          · rw [decide_eq_true c, decide_eq_true (by omega)]
          · rw [decide_eq_false c, decide_eq_false (by omega)]
        have e1 : gTest (gOp hNe (gOp hIn (gOp hIx (gVar 11) (gC (.int (1)))) (gVar 9)) (gOp hIn (gOp hIx (gVar 11) (gC (.int (2)))) (gVar 9))) [.int n, .list (r.map enc3), .int (k : Nat), .int (i0 : Nat), .int x, .int t.1, .int t.2.1, .int t.2.2, .list (WS.map encI), encT s, x10, enc3 u] = .ok (rimC s u) := by
          unfold encT
          simp only [bnd_ok, gVar_def, gC_def, gOp_def, gUn_def, gNil_def, gCons_def, gIf_def, gTest_def, gNot_def, gAnd_def, gOr_def, gAndV_def, gOrV_def, gNotV_def, gCB_def, asB_b, hAdd_i, hSub_i, hLt_i, hLe_i, hGt_i, hGe_i, hMul_r, hMul_l, hMod_i, hDiv_s, hBand_i, hShr_i, hPow_10_18, hPow_10_27, hPow_10_28, hPow_10_29, hPow_10_30, hEq_i, hNe_i, hLen_l, hLen_t, hMin2_i, hMax2_i, hMin3_i, hInt1_b, hInt1_i, hBits_i, hListOf_l, hListOf_t, hTupOf_l, hTupOf_t, gSeqS_def, gSet_def, gRet_def, gIfS_def, gNext_def, gTup_def, gLst_def, List.getElem?_cons_zero, List.getElem?_cons_succ, List.set_cons_zero, List.set_cons_succ, List.length_cons, List.length_nil, Nat.zero_add, Nat.reduceAdd, Nat.reduceLeDiff, Nat.reduceSub, Nat.reduceMul, if_true, if_false, Bool.false_eq_true, List.replicate_succ, List.replicate_zero, List.cons_append, List.nil_append, tgN, tgT, tgCons, tgNil, Int.reducePow, Int.reduceAdd, Int.reduceSub, Int.reduceMul, decide_true, decide_false, Bool.not_true, Bool.not_false, gChain_def, hIsa_int, hIsa_intb, hIsa_list, hIsa_tuple, gDrop_def, ix3_1, ix3_2, hIn_intsT, hNe_b]
          rfl
        rw [gAnd_def, e1]
        simp only [bnd_ok, gVar_def, gC_def, gOp_def, gUn_def, gNil_def, gCons_def, gIf_def, gTest_def, gNot_def, gAnd_def, gOr_def, gAndV_def, gOrV_def, gNotV_def, gCB_def, asB_b, hAdd_i, hSub_i, hLt_i, hLe_i, hGt_i, hGe_i, hMul_r, hMul_l, hMod_i, hDiv_s, hBand_i, hShr_i, hPow_10_18, hPow_10_27, hPow_10_28, hPow_10_29, hPow_10_30, hEq_i, hNe_i, hLen_l, hLen_t, hMin2_i, hMax2_i, hMin3_i, hInt1_b, hInt1_i, hBits_i, hListOf_l, hListOf_t, hTupOf_l, hTupOf_t, gSeqS_def, gSet_def, gRet_def, gIfS_def, gNext_def, gTup_def, gLst_def, List.getElem?_cons_zero, List.getElem?_cons_succ, List.set_cons_zero, List.set_cons_succ, List.length_cons, List.length_nil, Nat.zero_add, Nat.reduceAdd, Nat.reduceLeDiff, Nat.reduceSub, Nat.reduceMul, if_true, if_false, Bool.false_eq_true, List.replicate_succ, List.replicate_zero, List.cons_append, List.nil_append, tgN, tgT, tgCons, tgNil, Int.reducePow, Int.reduceAdd, Int.reduceSub, Int.reduceMul, decide_true, decide_false, Bool.not_true, Bool.not_false, gChain_def, hIsa_int, hIsa_intb, hIsa_list, hIsa_tuple, gDrop_def, ix3_0, e]
        cases decide (t.1 + 1 ≤ u.1) <;> rfl
      refine ⟨_, rfl, .inl ⟨hle, [.int n, .list (r.map enc3), .int (k : Nat), .int (i0 : Nat), .int x, .int t.1, .int t.2.1, .int t.2.2, .list (WS.map encI), encT s, .list ((r.filter fun u => decide (t.1 + 1 ≤ u.1) && rimC s u).map enc3), x11], ?_, _, _, _, rfl⟩⟩
      unfold g_l_strands_right_L1
      refine seq_step (set_ok hlc) ?_
      dsimp only [List.set]
      refine (if_f ?_).trans rfl
      have e : decide (((r.filter fun u => decide (t.1 + 1 ≤ u.1) && rimC s u).length : Int) < (WS.length : Int)) = false := by
        rw [decide_eq_false_iff_not, young_len]
        omega
      simp only [bnd_ok, gVar_def, gC_def, gOp_def, gUn_def, gNil_def, gCons_def, gIf_def, gTest_def, gNot_def, gAnd_def, gOr_def, gAndV_def, gOrV_def, gNotV_def, gCB_def, asB_b, hAdd_i, hSub_i, hLt_i, hLe_i, hGt_i, hGe_i, hMul_r, hMul_l, hMod_i, hDiv_s, hBand_i, hShr_i, hPow_10_18, hPow_10_27, hPow_10_28, hPow_10_29, hPow_10_30, hEq_i, hNe_i, hLen_l, hLen_t, hMin2_i, hMax2_i, hMin3_i, hInt1_b, hInt1_i, hBits_i, hListOf_l, hListOf_t, hTupOf_l, hTupOf_t, gSeqS_def, gSet_def, gRet_def, gIfS_def, gNext_def, gTup_def, gLst_def, List.getElem?_cons_zero, List.getElem?_cons_succ, List.set_cons_zero, List.set_cons_succ, List.length_cons, List.length_nil, Nat.zero_add, Nat.reduceAdd, Nat.reduceLeDiff, Nat.reduceSub, Nat.reduceMul, if_true, if_false, Bool.false_eq_true, List.replicate_succ, List.replicate_zero, List.cons_append, List.nil_append, tgN, tgT, tgCons, tgNil, Int.reducePow, Int.reduceAdd, Int.reduceSub, Int.reduceMul, decide_true, decide_false, Bool.not_true, Bool.not_false, gChain_def, hIsa_int, hIsa_intb, hIsa_list, hIsa_tuple, gDrop_def, List.length_map, e])
  have hall : ∀ s ∈ SS, WS.length ≤ (rimM (since (t.1 + 1) r) s).length := fun s hs => ways_le hW (hS s hs).ha (hS s hs).hb
  rcases hloop with ⟨_, ρ', hf, y9, y10, y11, rfl⟩ | ⟨⟨s, hs, hn⟩, _⟩
  · refine seq_step (for_ok (ds := SS.map encT) ?_ hf) ?_
    · refine seqG_l (callN_ok (ds := [.int n, .int t.2.1, .int t.2.2, .int x]) rfl rfl hsd)
    · rfl
  · exact absurd (hall s hs) hn
end K59
end T_K59V

section T_K59Q
set_option linter.all false
set_option maxRecDepth 100000
set_option maxHeartbeats 4000000
namespace K59
open PySem Sim FamA FamL Lay

theorem enc_canLay : ∀ r : List T3, PyData.canLayAll0 (r.map enc3) = true
  | [] => rfl
  | t :: r => by
    rw [List.map_cons]
    unfold PyData.canLayAll0
    rw [enc_canLay r]
    rfl
theorem enc_depth : ∀ r : List T3, PyData.depthAll (r.map enc3) ≤ 1
  | [] => by simp [PyData.depthAll]
  | t :: r => by
    rw [List.map_cons]
    unfold PyData.depthAll
    have := enc_depth r
    have e : (enc3 t).depth = 1 := rfl
    rw [e]
    omega
theorem enc_shaped (r : List T3) : SeqAt.shaped (.list (r.map enc3)) = true := by
  have := enc_depth r
  simp [SeqAt.shaped, PyData.canLay0, PyData.depth, enc_canLay]
  omega
theorem hNe_nil (r : List T3) : hNe (.list (r.map enc3)) (.list []) = .ok (.bool (!r.isEmpty)) := by
  have e := enc_shaped []
  rw [List.map_nil] at e
  unfold hNe
  rw [enc_shaped, e]
  cases r with
  | nil => simp [PyData.eqv, PyData.eqvAll]
  | cons t r => simp [PyData.eqv, PyData.eqvAll]
/-- the ways and the sides -/
theorem partA {n a b t : Int} {r : List T3} {N : List Int} {x3 : Int} (hin : InN n r) (ho : r.Pairwise fun s t => s.1 < t.1) (hl : r.length ≤ 60) (n1 : 1 ≤ n) (n10 : n ≤ 10) (a0 : 0 ≤ a) (an : a < n) (b0 : 0 ≤ b) (bn : b < n) (t0 : 0 ≤ t)
    (h3 : hIx (.list (N.map .int)) (.int 3) = .ok (.int x3)) (sc c d8 d9 d10 d11 d12 d13 d14 d15 : Dt) :
    ∃ e9 e10 e11 e12 e13, gIfS (gTest (gOp hNe (gVar 5) (gVar 6))) (gSeqS (gSet 9 (gCallN 3 f_l_ways (gCons (gLc (gSeq (gVar 4)) (tgN 8) (gTest (gOp hGe (gOp hIx (gVar 8) (gC (.int (0)))) (gVar 7))) (gVar 8)) (gCons (gVar 5) (gCons (gVar 6) (gNil)))))) (gSeqS (gIfS (gTest (gOp hNe (gCallN 3 f_judged (gCons (gVar 3) (gCons (gVar 4) (gCons (gTup (gCons (gC (.str "ways")) (gCons (gVar 5) (gCons (gVar 6) (gCons (gVar 7) (gCons (gVar 9) (gNil))))))) (gNil))))) (gTup (gCons (gC (.str "at least")) (gCons (gCB hLen (gCons (gVar 9) (gNil))) (gNil)))))) (gRet (gC (.bool false))) (gNext)) (gFor (gSeq (gCallN 4 f_l_sides (gCons (gVar 3) (gCons (gVar 5) (gCons (gVar 6) (gCons (gOp hIx (gVar 2) (gC (.int (3)))) (gNil))))))) (tgN 10) g_law_L1))) (gNext)
      [sc, c, .list (N.map .int), .int n, .list (r.map enc3), .int a, .int b, .int t, d8, d9, d10, d11, d12, d13, d14, d15] = .ok (.nx [sc, c, .list (N.map .int), .int n, .list (r.map enc3), .int a, .int b, .int t, d8, e9, e10, e11, e12, e13, d14, d15]) := by
  by_cases hab : a = b
  · have e : (a == b) = true := by simp [hab]
    exact ⟨d9, d10, d11, d12, d13, (if_f (by simp only [bnd_ok, gVar_def, gC_def, gOp_def, gUn_def, gNil_def, gCons_def, gIf_def, gTest_def, gNot_def, gAnd_def, gOr_def, gAndV_def, gOrV_def, gNotV_def, gCB_def, asB_b, hAdd_i, hSub_i, hLt_i, hLe_i, hGt_i, hGe_i, hMul_r, hMul_l, hMod_i, hDiv_s, hBand_i, hShr_i, hPow_10_18, hPow_10_27, hPow_10_28, hPow_10_29, hPow_10_30, hEq_i, hNe_i, hLen_l, hLen_t, hMin2_i, hMax2_i, hMin3_i, hInt1_b, hInt1_i, hBits_i, hListOf_l, hListOf_t, hTupOf_l, hTupOf_t, gSeqS_def, gSet_def, gRet_def, gIfS_def, gNext_def, gTup_def, gLst_def, List.getElem?_cons_zero, List.getElem?_cons_succ, List.set_cons_zero, List.set_cons_succ, List.length_cons, List.length_nil, Nat.zero_add, Nat.reduceAdd, Nat.reduceLeDiff, Nat.reduceSub, Nat.reduceMul, if_true, if_false, Bool.false_eq_true, List.replicate_succ, List.replicate_zero, List.cons_append, List.nil_append, tgN, tgT, tgCons, tgNil, Int.reducePow, Int.reduceAdd, Int.reduceSub, Int.reduceMul, decide_true, decide_false, Bool.not_true, Bool.not_false, gChain_def, hIsa_int, hIsa_intb, hIsa_list, hIsa_tuple, gDrop_def, e])).trans rfl⟩
  · have e : (a == b) = false := by simp [hab]
    have hsl := since_len r t
    obtain ⟨WS, hW, hWl, hways⟩ := ways_ok (b := b) (since_ord ho t) (fun u hu => hin u (List.mem_filter.mp hu).1) (by omega) n10 a0 an
    have hj := judged_ways ho hl a0 an b0 bn hab t0 hW (by omega)
    obtain ⟨SS, hS, hsd⟩ := sides_ok (x := x3) n10 a0 an hab
    have hlc : gLc (gSeq (gVar 4)) (tgN 8) (gTest (gOp hGe (gOp hIx (gVar 8) (gC (.int (0)))) (gVar 7))) (gVar 8) [sc, c, .list (N.map .int), .int n, .list (r.map enc3), .int a, .int b, .int t, d8, d9, d10, d11, d12, d13, d14, d15] = .ok (.list ((since t r).map enc3)) :=
      gLc_map enc3 (fun s => decide (t ≤ s.1)) enc3 (xs := r) (by rfl) (by omega) fun s _ => ⟨[sc, c, .list (N.map .int), .int n, .list (r.map enc3), .int a, .int b, .int t, enc3 s, d9, d10, d11, d12, d13, d14, d15], rfl, by simp only [bnd_ok, gVar_def, gC_def, gOp_def, gUn_def, gNil_def, gCons_def, gIf_def, gTest_def, gNot_def, gAnd_def, gOr_def, gAndV_def, gOrV_def, gNotV_def, gCB_def, asB_b, hAdd_i, hSub_i, hLt_i, hLe_i, hGt_i, hGe_i, hMul_r, hMul_l, hMod_i, hDiv_s, hBand_i, hShr_i, hPow_10_18, hPow_10_27, hPow_10_28, hPow_10_29, hPow_10_30, hEq_i, hNe_i, hLen_l, hLen_t, hMin2_i, hMax2_i, hMin3_i, hInt1_b, hInt1_i, hBits_i, hListOf_l, hListOf_t, hTupOf_l, hTupOf_t, gSeqS_def, gSet_def, gRet_def, gIfS_def, gNext_def, gTup_def, gLst_def, List.getElem?_cons_zero, List.getElem?_cons_succ, List.set_cons_zero, List.set_cons_succ, List.length_cons, List.length_nil, Nat.zero_add, Nat.reduceAdd, Nat.reduceLeDiff, Nat.reduceSub, Nat.reduceMul, if_true, if_false, Bool.false_eq_true, List.replicate_succ, List.replicate_zero, List.cons_append, List.nil_append, tgN, tgT, tgCons, tgNil, Int.reducePow, Int.reduceAdd, Int.reduceSub, Int.reduceMul, decide_true, decide_false, Bool.not_true, Bool.not_false, gChain_def, hIsa_int, hIsa_intb, hIsa_list, hIsa_tuple, gDrop_def, ix3_0], fun _ => rfl⟩
    have hloop := forE_all encT (h := tgN 10) (b := g_law_L1) (fun s => WS.length ≤ (rimM (since t r) s).length)
      (fun ρ => ∃ x10 x11 x12 x13, ρ = [sc, c, .list (N.map .int), .int n, .list (r.map enc3), .int a, .int b, .int t, d8, .list (WS.map encI), x10, x11, x12, x13, d14, d15]) SS _ ⟨d10, d11, d12, d13, rfl⟩ (by
        rintro s hs ρ ⟨x10, x11, x12, x13, rfl⟩
        have hk := hS s hs
        have hle := ways_le hW hk.ha hk.hb
        have hjs := judged_side hl a0 an b0 bn hab t0 hk.rg hk.up hk.len hk.ha hk.hb (r := r)
        have hyl := young_len r t s
        generalize (rimM (since t r) s).length = M at *
        refine ⟨_, rfl, .inl ⟨hle, [sc, c, .list (N.map .int), .int n, .list (r.map enc3), .int a, .int b, .int t, d8, .list (WS.map encI), encT s, .str "at most", .int M, .list ((r.filter fun u => decide (t ≤ u.1) && rimC s u).map enc3), d14, d15], ?_, _, _, _, _, rfl⟩⟩
        unfold g_law_L1
        have c1 : gCallN 3 f_judged (gCons (gVar 3) (gCons (gVar 4) (gCons (gTup (gCons (gC (.str "side")) (gCons (gVar 5) (gCons (gVar 6) (gCons (gVar 7) (gCons (gVar 10) (gNil))))))) (gNil)))) [sc, c, .list (N.map .int), .int n, .list (r.map enc3), .int a, .int b, .int t, d8, .list (WS.map encI), encT s, x11, x12, x13, d14, d15] = .ok (.tuple [.str "at most", .int M]) := by
          refine callN_ok (ds := [.int n, .list (r.map enc3), .tuple [.str "side", .int a, .int b, .int t, .tuple (s.map .int)]]) ?_ rfl hjs
          have e : gTup (gCons (gC (.str "side")) (gCons (gVar 5) (gCons (gVar 6) (gCons (gVar 7) (gCons (gVar 10) (gNil)))))) [sc, c, .list (N.map .int), .int n, .list (r.map enc3), .int a, .int b, .int t, d8, .list (WS.map encI), encT s, x11, x12, x13, d14, d15] = .ok (.tuple [.str "side", .int a, .int b, .int t, .tuple (s.map .int)]) := gTup_ok (xs := [.str "side", .int a, .int b, .int t, .tuple (s.map .int)]) (by rfl) (by simp)
          rw [gCons_def, gVar_def]
          show bnd (O.ok (PyData.int n)) _ = _
          rw [bnd_ok, gCons_def, gVar_def]
          show bnd (bnd (O.ok (PyData.list (r.map enc3))) _) _ = _
          rw [bnd_ok, gCons_def, e]
          rfl
        refine seq_step (ρ' := [sc, c, .list (N.map .int), .int n, .list (r.map enc3), .int a, .int b, .int t, d8, .list (WS.map encI), encT s, .str "at most", .int M, x13, d14, d15]) (asg_ok c1 (by rfl)) ?_
        have hlc : gLc (gSeq (gVar 4)) (tgN 8) (gAnd (gTest (gOp hGe (gOp hIx (gVar 8) (gC (.int (0)))) (gVar 7))) (gTest (gOp hNe (gOp hIn (gOp hIx (gVar 8) (gC (.int (1)))) (gVar 10)) (gOp hIn (gOp hIx (gVar 8) (gC (.int (2)))) (gVar 10))))) (gVar 8) [sc, c, .list (N.map .int), .int n, .list (r.map enc3), .int a, .int b, .int t, d8, .list (WS.map encI), encT s, .str "at most", .int M, x13, d14, d15]
            = .ok (.list ((r.filter fun u => decide (t ≤ u.1) && rimC s u).map enc3)) := by
          refine gLc_map enc3 (fun u => decide (t ≤ u.1) && rimC s u) enc3 (xs := r) (by rfl) (by omega) fun u _ => ⟨[sc, c, .list (N.map .int), .int n, .list (r.map enc3), .int a, .int b, .int t, enc3 u, .list (WS.map encI), encT s, .str "at most", .int M, x13, d14, d15], rfl, ?_, fun _ => rfl⟩
          have e1 : gTest (gOp hNe (gOp hIn (gOp hIx (gVar 8) (gC (.int (1)))) (gVar 10)) (gOp hIn (gOp hIx (gVar 8) (gC (.int (2)))) (gVar 10))) [sc, c, .list (N.map .int), .int n, .list (r.map enc3), .int a, .int b, .int t, enc3 u, .list (WS.map encI), encT s, .str "at most", .int M, x13, d14, d15] = .ok (rimC s u) := by
            unfold encT
            simp only [bnd_ok, gVar_def, gC_def, gOp_def, gUn_def, gNil_def, gCons_def, gIf_def, gTest_def, gNot_def, gAnd_def, gOr_def, gAndV_def, gOrV_def, gNotV_def, gCB_def, asB_b, hAdd_i, hSub_i, hLt_i, hLe_i, hGt_i, hGe_i, hMul_r, hMul_l, hMod_i, hDiv_s, hBand_i, hShr_i, hPow_10_18, hPow_10_27, hPow_10_28, hPow_10_29, hPow_10_30, hEq_i, hNe_i, hLen_l, hLen_t, hMin2_i, hMax2_i, hMin3_i, hInt1_b, hInt1_i, hBits_i, hListOf_l, hListOf_t, hTupOf_l, hTupOf_t, gSeqS_def, gSet_def, gRet_def, gIfS_def, gNext_def, gTup_def, gLst_def, List.getElem?_cons_zero, List.getElem?_cons_succ, List.set_cons_zero, List.set_cons_succ, List.length_cons, List.length_nil, Nat.zero_add, Nat.reduceAdd, Nat.reduceLeDiff, Nat.reduceSub, Nat.reduceMul, if_true, if_false, Bool.false_eq_true, List.replicate_succ, List.replicate_zero, List.cons_append, List.nil_append, tgN, tgT, tgCons, tgNil, Int.reducePow, Int.reduceAdd, Int.reduceSub, Int.reduceMul, decide_true, decide_false, Bool.not_true, Bool.not_false, gChain_def, hIsa_int, hIsa_intb, hIsa_list, hIsa_tuple, gDrop_def, ix3_1, ix3_2, hIn_intsT, hNe_b]
            rfl
          rw [gAnd_def, e1]
          simp only [bnd_ok, gVar_def, gC_def, gOp_def, gUn_def, gNil_def, gCons_def, gIf_def, gTest_def, gNot_def, gAnd_def, gOr_def, gAndV_def, gOrV_def, gNotV_def, gCB_def, asB_b, hAdd_i, hSub_i, hLt_i, hLe_i, hGt_i, hGe_i, hMul_r, hMul_l, hMod_i, hDiv_s, hBand_i, hShr_i, hPow_10_18, hPow_10_27, hPow_10_28, hPow_10_29, hPow_10_30, hEq_i, hNe_i, hLen_l, hLen_t, hMin2_i, hMax2_i, hMin3_i, hInt1_b, hInt1_i, hBits_i, hListOf_l, hListOf_t, hTupOf_l, hTupOf_t, gSeqS_def, gSet_def, gRet_def, gIfS_def, gNext_def, gTup_def, gLst_def, List.getElem?_cons_zero, List.getElem?_cons_succ, List.set_cons_zero, List.set_cons_succ, List.length_cons, List.length_nil, Nat.zero_add, Nat.reduceAdd, Nat.reduceLeDiff, Nat.reduceSub, Nat.reduceMul, if_true, if_false, Bool.false_eq_true, List.replicate_succ, List.replicate_zero, List.cons_append, List.nil_append, tgN, tgT, tgCons, tgNil, Int.reducePow, Int.reduceAdd, Int.reduceSub, Int.reduceMul, decide_true, decide_false, Bool.not_true, Bool.not_false, gChain_def, hIsa_int, hIsa_intb, hIsa_list, hIsa_tuple, gDrop_def, ix3_0]
          cases decide (t ≤ u.1) <;> rfl
        refine seq_step (set_ok hlc) ?_
        dsimp only [List.set]
        refine (if_f ?_).trans rfl
        rw [gOr_def, gTest_def, gOp_def]
        have h1 : bnd (hNe (.str "at most") (.str "at most")) asB = .ok false := by rw [hNe_str sh_str.2.2.2.2 sh_str.2.2.2.2]; rfl
        refine (congrArg (fun z => bnd z _) h1).trans ?_
        simp only [bnd_ok, Bool.false_eq_true, if_false]
        have h2 : decide ((M : Int) < (WS.length : Int)) = false := by rw [decide_eq_false_iff_not]; omega
        simp only [bnd_ok, gVar_def, gC_def, gOp_def, gUn_def, gNil_def, gCons_def, gIf_def, gTest_def, gNot_def, gAnd_def, gOr_def, gAndV_def, gOrV_def, gNotV_def, gCB_def, asB_b, hAdd_i, hSub_i, hLt_i, hLe_i, hGt_i, hGe_i, hMul_r, hMul_l, hMod_i, hDiv_s, hBand_i, hShr_i, hPow_10_18, hPow_10_27, hPow_10_28, hPow_10_29, hPow_10_30, hEq_i, hNe_i, hLen_l, hLen_t, hMin2_i, hMax2_i, hMin3_i, hInt1_b, hInt1_i, hBits_i, hListOf_l, hListOf_t, hTupOf_l, hTupOf_t, gSeqS_def, gSet_def, gRet_def, gIfS_def, gNext_def, gTup_def, gLst_def, List.getElem?_cons_zero, List.getElem?_cons_succ, List.set_cons_zero, List.set_cons_succ, List.length_cons, List.length_nil, Nat.zero_add, Nat.reduceAdd, Nat.reduceLeDiff, Nat.reduceSub, Nat.reduceMul, if_true, if_false, Bool.false_eq_true, List.replicate_succ, List.replicate_zero, List.cons_append, List.nil_append, tgN, tgT, tgCons, tgNil, Int.reducePow, Int.reduceAdd, Int.reduceSub, Int.reduceMul, decide_true, decide_false, Bool.not_true, Bool.not_false, gChain_def, hIsa_int, hIsa_intb, hIsa_list, hIsa_tuple, gDrop_def, List.length_map, hyl, beq_self_eq_true, h2])
    rcases hloop with ⟨_, ρ', hf, y10, y11, y12, y13, rfl⟩ | ⟨⟨s, hs, hn⟩, _⟩
    · refine ⟨.list (WS.map encI), y10, y11, y12, y13, (if_t (by simp only [bnd_ok, gVar_def, gC_def, gOp_def, gUn_def, gNil_def, gCons_def, gIf_def, gTest_def, gNot_def, gAnd_def, gOr_def, gAndV_def, gOrV_def, gNotV_def, gCB_def, asB_b, hAdd_i, hSub_i, hLt_i, hLe_i, hGt_i, hGe_i, hMul_r, hMul_l, hMod_i, hDiv_s, hBand_i, hShr_i, hPow_10_18, hPow_10_27, hPow_10_28, hPow_10_29, hPow_10_30, hEq_i, hNe_i, hLen_l, hLen_t, hMin2_i, hMax2_i, hMin3_i, hInt1_b, hInt1_i, hBits_i, hListOf_l, hListOf_t, hTupOf_l, hTupOf_t, gSeqS_def, gSet_def, gRet_def, gIfS_def, gNext_def, gTup_def, gLst_def, List.getElem?_cons_zero, List.getElem?_cons_succ, List.set_cons_zero, List.set_cons_succ, List.length_cons, List.length_nil, Nat.zero_add, Nat.reduceAdd, Nat.reduceLeDiff, Nat.reduceSub, Nat.reduceMul, if_true, if_false, Bool.false_eq_true, List.replicate_succ, List.replicate_zero, List.cons_append, List.nil_append, tgN, tgT, tgCons, tgNil, Int.reducePow, Int.reduceAdd, Int.reduceSub, Int.reduceMul, decide_true, decide_false, Bool.not_true, Bool.not_false, gChain_def, hIsa_int, hIsa_intb, hIsa_list, hIsa_tuple, gDrop_def, e])).trans ?_⟩
      refine seq_step (set_ok (callN_ok (ds := [.list ((since t r).map enc3), .int a, .int b]) ?_ rfl hways)) ?_
      · rw [gCons_def, hlc]
        rfl
      dsimp only [List.set]
      refine seq_step ((if_f ?_).trans rfl) ?_
      · have c1 : gCallN 3 f_judged (gCons (gVar 3) (gCons (gVar 4) (gCons (gTup (gCons (gC (.str "ways")) (gCons (gVar 5) (gCons (gVar 6) (gCons (gVar 7) (gCons (gVar 9) (gNil))))))) (gNil)))) [sc, c, .list (N.map .int), .int n, .list (r.map enc3), .int a, .int b, .int t, d8, .list (WS.map encI), d10, d11, d12, d13, d14, d15] = .ok (.tuple [.str "at least", .int WS.length]) := by
          refine callN_ok (ds := [.int n, .list (r.map enc3), .tuple [.str "ways", .int a, .int b, .int t, .list (WS.map encI)]]) ?_ rfl hj
          have e : gTup (gCons (gC (.str "ways")) (gCons (gVar 5) (gCons (gVar 6) (gCons (gVar 7) (gCons (gVar 9) (gNil)))))) [sc, c, .list (N.map .int), .int n, .list (r.map enc3), .int a, .int b, .int t, d8, .list (WS.map encI), d10, d11, d12, d13, d14, d15] = .ok (.tuple [.str "ways", .int a, .int b, .int t, .list (WS.map encI)]) := gTup_ok (xs := [.str "ways", .int a, .int b, .int t, .list (WS.map encI)]) (by rfl) (by simp)
          rw [gCons_def, gVar_def]
          show bnd (O.ok (PyData.int n)) _ = _
          rw [bnd_ok, gCons_def, gVar_def]
          show bnd (bnd (O.ok (PyData.list (r.map enc3))) _) _ = _
          rw [bnd_ok, gCons_def, e]
          rfl
        have c2 : gTup (gCons (gC (.str "at least")) (gCons (gCB hLen (gCons (gVar 9) (gNil))) (gNil))) [sc, c, .list (N.map .int), .int n, .list (r.map enc3), .int a, .int b, .int t, d8, .list (WS.map encI), d10, d11, d12, d13, d14, d15] = .ok (.tuple [.str "at least", .int WS.length]) := gTup_ok (xs := [.str "at least", .int WS.length]) (by simp only [bnd_ok, gVar_def, gC_def, gOp_def, gUn_def, gNil_def, gCons_def, gIf_def, gTest_def, gNot_def, gAnd_def, gOr_def, gAndV_def, gOrV_def, gNotV_def, gCB_def, asB_b, hAdd_i, hSub_i, hLt_i, hLe_i, hGt_i, hGe_i, hMul_r, hMul_l, hMod_i, hDiv_s, hBand_i, hShr_i, hPow_10_18, hPow_10_27, hPow_10_28, hPow_10_29, hPow_10_30, hEq_i, hNe_i, hLen_l, hLen_t, hMin2_i, hMax2_i, hMin3_i, hInt1_b, hInt1_i, hBits_i, hListOf_l, hListOf_t, hTupOf_l, hTupOf_t, gSeqS_def, gSet_def, gRet_def, gIfS_def, gNext_def, gTup_def, gLst_def, List.getElem?_cons_zero, List.getElem?_cons_succ, List.set_cons_zero, List.set_cons_succ, List.length_cons, List.length_nil, Nat.zero_add, Nat.reduceAdd, Nat.reduceLeDiff, Nat.reduceSub, Nat.reduceMul, if_true, if_false, Bool.false_eq_true, List.replicate_succ, List.replicate_zero, List.cons_append, List.nil_append, tgN, tgT, tgCons, tgNil, Int.reducePow, Int.reduceAdd, Int.reduceSub, Int.reduceMul, decide_true, decide_false, Bool.not_true, Bool.not_false, gChain_def, hIsa_int, hIsa_intb, hIsa_list, hIsa_tuple, gDrop_def, List.length_map]) (by simp)
        rw [gTest_def, gOp_def, c1, bnd_ok, c2, bnd_ok, hNe_pair sh_str.2.2.2.1]
        rfl
      refine for_ok (ds := SS.map encT) ?_ hf
      refine seqG_l (callN_ok (ds := [.int n, .int a, .int b, .int x3]) ?_ rfl hsd)
      simp only [bnd_ok, gVar_def, gC_def, gOp_def, gUn_def, gNil_def, gCons_def, gIf_def, gTest_def, gNot_def, gAnd_def, gOr_def, gAndV_def, gOrV_def, gNotV_def, gCB_def, asB_b, hAdd_i, hSub_i, hLt_i, hLe_i, hGt_i, hGe_i, hMul_r, hMul_l, hMod_i, hDiv_s, hBand_i, hShr_i, hPow_10_18, hPow_10_27, hPow_10_28, hPow_10_29, hPow_10_30, hEq_i, hNe_i, hLen_l, hLen_t, hMin2_i, hMax2_i, hMin3_i, hInt1_b, hInt1_i, hBits_i, hListOf_l, hListOf_t, hTupOf_l, hTupOf_t, gSeqS_def, gSet_def, gRet_def, gIfS_def, gNext_def, gTup_def, gLst_def, List.getElem?_cons_zero, List.getElem?_cons_succ, List.set_cons_zero, List.set_cons_succ, List.length_cons, List.length_nil, Nat.zero_add, Nat.reduceAdd, Nat.reduceLeDiff, Nat.reduceSub, Nat.reduceMul, if_true, if_false, Bool.false_eq_true, List.replicate_succ, List.replicate_zero, List.cons_append, List.nil_append, tgN, tgT, tgCons, tgNil, Int.reducePow, Int.reduceAdd, Int.reduceSub, Int.reduceMul, decide_true, decide_false, Bool.not_true, Bool.not_false, gChain_def, hIsa_int, hIsa_intb, hIsa_list, hIsa_tuple, gDrop_def, h3]
    · exact absurd (ways_le hW (hS s hs).ha (hS s hs).hb) hn
/-- the strands -/
theorem partB {n a b t : Int} {r : List T3} {N : List Int} {x3 x4 x5 : Int} (hin : InN n r) (ho : r.Pairwise fun s t => s.1 < t.1) (hl : r.length ≤ 60) (n1 : 1 ≤ n) (n10 : n ≤ 10)
    (h3 : hIx (.list (N.map .int)) (.int 3) = .ok (.int x3)) (h4 : hIx (.list (N.map .int)) (.int 4) = .ok (.int x4)) (h5 : hIx (.list (N.map .int)) (.int 5) = .ok (.int x5)) (b5 : 0 ≤ x5) (sc c d8 d9 d10 d11 d12 d13 d14 d15 : Dt) :
    ∃ e14 e15, gIfS (gTest (gOp hNe (gVar 4) (gLst (gNil)))) (gSeqS (gSet 14 (gOp hMod (gOp hIx (gVar 2) (gC (.int (4)))) (gCB hLen (gCons (gVar 4) (gNil))))) (gSeqS (gSet 15 (gCallN 1 f_l_depth (gCons (gOp hIx (gVar 2) (gC (.int (5)))) (gNil)))) (gIfS (gAnd (gTest (gOp hNe (gOp hIx (gOp hIx (gVar 4) (gVar 14)) (gC (.int (1)))) (gOp hIx (gOp hIx (gVar 4) (gVar 14)) (gC (.int (2)))))) (gNot (gTest (gCallN 5 f_l_strands_right (gCons (gVar 3) (gCons (gVar 4) (gCons (gVar 15) (gCons (gVar 14) (gCons (gOp hIx (gVar 2) (gC (.int (3)))) (gNil)))))))))) (gRet (gC (.bool false))) (gNext)))) (gNext)
      [sc, c, .list (N.map .int), .int n, .list (r.map enc3), .int a, .int b, .int t, d8, d9, d10, d11, d12, d13, d14, d15] = .ok (.nx [sc, c, .list (N.map .int), .int n, .list (r.map enc3), .int a, .int b, .int t, d8, d9, d10, d11, d12, d13, e14, e15]) := by
  have hne := hNe_nil r
  have hL : ∀ ρ, gLst gNil ρ = .ok (.list []) := fun ρ => by rw [gLst_def, gNil_def, bnd_ok, if_pos (by simp)]
  have ht : ∀ z, (!r.isEmpty) = z → gTest (gOp hNe (gVar 4) (gLst (gNil))) [sc, c, .list (N.map .int), .int n, .list (r.map enc3), .int a, .int b, .int t, d8, d9, d10, d11, d12, d13, d14, d15] = .ok z := fun z e => by
    rw [gTest_def, gOp_def, hL]
    simp only [gVar_def, List.getElem?_cons_zero, List.getElem?_cons_succ, bnd_ok, hne, asB_b, e]
  by_cases hr : r = []
  · exact ⟨d14, d15, (if_f (ht false (by rw [hr]; rfl))).trans rfl⟩
  · have hp : 0 < r.length := List.length_pos_iff.mpr hr
    have m4 := hMod_i (i := x4) (show (0 : Int) < (r.length : Int) by omega)
    have q0 := Int.emod_nonneg x4 (show (r.length : Int) ≠ 0 by omega)
    have q1 := Int.emod_lt_of_pos x4 (show (0 : Int) < (r.length : Int) by omega)
    generalize x4 % (r.length : Int) = q at *
    obtain ⟨i0, rfl⟩ : ∃ i0 : Nat, q = (i0 : Int) := ⟨q.toNat, by omega⟩
    have hat : i0 < r.length := by omega
    obtain ⟨k, hk, k1, k6⟩ := depth_ok b5
    have i3 : hIx (.list (r.map enc3)) (.int (i0 : Nat)) = .ok (enc3 r[i0]) := by
      refine (hIx_l (atI_map enc3 (by omega) (by omega))).trans ?_
      simp only [Int.toNat_natCast]
    refine ⟨.int (i0 : Nat), .int (k : Nat), (if_t (ht true (by cases r with | nil => exact absurd rfl hr | cons => rfl))).trans ?_⟩
    refine seq_step (set_ok (d := .int (i0 : Nat)) (by simp only [bnd_ok, gVar_def, gC_def, gOp_def, gUn_def, gNil_def, gCons_def, gIf_def, gTest_def, gNot_def, gAnd_def, gOr_def, gAndV_def, gOrV_def, gNotV_def, gCB_def, asB_b, hAdd_i, hSub_i, hLt_i, hLe_i, hGt_i, hGe_i, hMul_r, hMul_l, hMod_i, hDiv_s, hBand_i, hShr_i, hPow_10_18, hPow_10_27, hPow_10_28, hPow_10_29, hPow_10_30, hEq_i, hNe_i, hLen_l, hLen_t, hMin2_i, hMax2_i, hMin3_i, hInt1_b, hInt1_i, hBits_i, hListOf_l, hListOf_t, hTupOf_l, hTupOf_t, gSeqS_def, gSet_def, gRet_def, gIfS_def, gNext_def, gTup_def, gLst_def, List.getElem?_cons_zero, List.getElem?_cons_succ, List.set_cons_zero, List.set_cons_succ, List.length_cons, List.length_nil, Nat.zero_add, Nat.reduceAdd, Nat.reduceLeDiff, Nat.reduceSub, Nat.reduceMul, if_true, if_false, Bool.false_eq_true, List.replicate_succ, List.replicate_zero, List.cons_append, List.nil_append, tgN, tgT, tgCons, tgNil, Int.reducePow, Int.reduceAdd, Int.reduceSub, Int.reduceMul, decide_true, decide_false, Bool.not_true, Bool.not_false, gChain_def, hIsa_int, hIsa_intb, hIsa_list, hIsa_tuple, gDrop_def, List.length_map, h4, m4])) ?_
    dsimp only [List.set]
    refine seq_step (set_ok (d := .int (k : Nat)) (callN_ok (ds := [.int x5]) (by simp only [bnd_ok, gVar_def, gC_def, gOp_def, gUn_def, gNil_def, gCons_def, gIf_def, gTest_def, gNot_def, gAnd_def, gOr_def, gAndV_def, gOrV_def, gNotV_def, gCB_def, asB_b, hAdd_i, hSub_i, hLt_i, hLe_i, hGt_i, hGe_i, hMul_r, hMul_l, hMod_i, hDiv_s, hBand_i, hShr_i, hPow_10_18, hPow_10_27, hPow_10_28, hPow_10_29, hPow_10_30, hEq_i, hNe_i, hLen_l, hLen_t, hMin2_i, hMax2_i, hMin3_i, hInt1_b, hInt1_i, hBits_i, hListOf_l, hListOf_t, hTupOf_l, hTupOf_t, gSeqS_def, gSet_def, gRet_def, gIfS_def, gNext_def, gTup_def, gLst_def, List.getElem?_cons_zero, List.getElem?_cons_succ, List.set_cons_zero, List.set_cons_succ, List.length_cons, List.length_nil, Nat.zero_add, Nat.reduceAdd, Nat.reduceLeDiff, Nat.reduceSub, Nat.reduceMul, if_true, if_false, Bool.false_eq_true, List.replicate_succ, List.replicate_zero, List.cons_append, List.nil_append, tgN, tgT, tgCons, tgNil, Int.reducePow, Int.reduceAdd, Int.reduceSub, Int.reduceMul, decide_true, decide_false, Bool.not_true, Bool.not_false, gChain_def, hIsa_int, hIsa_intb, hIsa_list, hIsa_tuple, gDrop_def, h5]) rfl hk)) ?_
    dsimp only [List.set]
    refine (if_f ?_).trans rfl
    by_cases c0 : r[i0].2.1 = r[i0].2.2
    · have e : (r[i0].2.1 == r[i0].2.2) = true := by simp [c0]
      simp only [bnd_ok, gVar_def, gC_def, gOp_def, gUn_def, gNil_def, gCons_def, gIf_def, gTest_def, gNot_def, gAnd_def, gOr_def, gAndV_def, gOrV_def, gNotV_def, gCB_def, asB_b, hAdd_i, hSub_i, hLt_i, hLe_i, hGt_i, hGe_i, hMul_r, hMul_l, hMod_i, hDiv_s, hBand_i, hShr_i, hPow_10_18, hPow_10_27, hPow_10_28, hPow_10_29, hPow_10_30, hEq_i, hNe_i, hLen_l, hLen_t, hMin2_i, hMax2_i, hMin3_i, hInt1_b, hInt1_i, hBits_i, hListOf_l, hListOf_t, hTupOf_l, hTupOf_t, gSeqS_def, gSet_def, gRet_def, gIfS_def, gNext_def, gTup_def, gLst_def, List.getElem?_cons_zero, List.getElem?_cons_succ, List.set_cons_zero, List.set_cons_succ, List.length_cons, List.length_nil, Nat.zero_add, Nat.reduceAdd, Nat.reduceLeDiff, Nat.reduceSub, Nat.reduceMul, if_true, if_false, Bool.false_eq_true, List.replicate_succ, List.replicate_zero, List.cons_append, List.nil_append, tgN, tgT, tgCons, tgNil, Int.reducePow, Int.reduceAdd, Int.reduceSub, Int.reduceMul, decide_true, decide_false, Bool.not_true, Bool.not_false, gChain_def, hIsa_int, hIsa_intb, hIsa_list, hIsa_tuple, gDrop_def, i3, ix3_1, ix3_2, e]
    · have e : (r[i0].2.1 == r[i0].2.2) = false := by simp [c0]
      have hs := strands_right_ok (x := x3) hin ho hl n1 n10 k1 k6 hat c0
      have c1 : gCallN 5 f_l_strands_right (gCons (gVar 3) (gCons (gVar 4) (gCons (gVar 15) (gCons (gVar 14) (gCons (gOp hIx (gVar 2) (gC (.int (3)))) (gNil)))))) [sc, c, .list (N.map .int), .int n, .list (r.map enc3), .int a, .int b, .int t, d8, d9, d10, d11, d12, d13, .int (i0 : Nat), .int (k : Nat)] = .ok (.bool true) :=
        callN_ok (ds := [.int n, .list (r.map enc3), .int (k : Nat), .int (i0 : Nat), .int x3]) (by simp only [bnd_ok, gVar_def, gC_def, gOp_def, gUn_def, gNil_def, gCons_def, gIf_def, gTest_def, gNot_def, gAnd_def, gOr_def, gAndV_def, gOrV_def, gNotV_def, gCB_def, asB_b, hAdd_i, hSub_i, hLt_i, hLe_i, hGt_i, hGe_i, hMul_r, hMul_l, hMod_i, hDiv_s, hBand_i, hShr_i, hPow_10_18, hPow_10_27, hPow_10_28, hPow_10_29, hPow_10_30, hEq_i, hNe_i, hLen_l, hLen_t, hMin2_i, hMax2_i, hMin3_i, hInt1_b, hInt1_i, hBits_i, hListOf_l, hListOf_t, hTupOf_l, hTupOf_t, gSeqS_def, gSet_def, gRet_def, gIfS_def, gNext_def, gTup_def, gLst_def, List.getElem?_cons_zero, List.getElem?_cons_succ, List.set_cons_zero, List.set_cons_succ, List.length_cons, List.length_nil, Nat.zero_add, Nat.reduceAdd, Nat.reduceLeDiff, Nat.reduceSub, Nat.reduceMul, if_true, if_false, Bool.false_eq_true, List.replicate_succ, List.replicate_zero, List.cons_append, List.nil_append, tgN, tgT, tgCons, tgNil, Int.reducePow, Int.reduceAdd, Int.reduceSub, Int.reduceMul, decide_true, decide_false, Bool.not_true, Bool.not_false, gChain_def, hIsa_int, hIsa_intb, hIsa_list, hIsa_tuple, gDrop_def, h3]) rfl hs
      rw [gAnd_def, gNot_def, gTest_def (gCallN 5 f_l_strands_right _), c1]
      simp only [bnd_ok, gVar_def, gC_def, gOp_def, gUn_def, gNil_def, gCons_def, gIf_def, gTest_def, gNot_def, gAnd_def, gOr_def, gAndV_def, gOrV_def, gNotV_def, gCB_def, asB_b, hAdd_i, hSub_i, hLt_i, hLe_i, hGt_i, hGe_i, hMul_r, hMul_l, hMod_i, hDiv_s, hBand_i, hShr_i, hPow_10_18, hPow_10_27, hPow_10_28, hPow_10_29, hPow_10_30, hEq_i, hNe_i, hLen_l, hLen_t, hMin2_i, hMax2_i, hMin3_i, hInt1_b, hInt1_i, hBits_i, hListOf_l, hListOf_t, hTupOf_l, hTupOf_t, gSeqS_def, gSet_def, gRet_def, gIfS_def, gNext_def, gTup_def, gLst_def, List.getElem?_cons_zero, List.getElem?_cons_succ, List.set_cons_zero, List.set_cons_succ, List.length_cons, List.length_nil, Nat.zero_add, Nat.reduceAdd, Nat.reduceLeDiff, Nat.reduceSub, Nat.reduceMul, if_true, if_false, Bool.false_eq_true, List.replicate_succ, List.replicate_zero, List.cons_append, List.nil_append, tgN, tgT, tgCons, tgNil, Int.reducePow, Int.reduceAdd, Int.reduceSub, Int.reduceMul, decide_true, decide_false, Bool.not_true, Bool.not_false, gChain_def, hIsa_int, hIsa_intb, hIsa_list, hIsa_tuple, gDrop_def, i3, ix3_1, ix3_2, e]
theorem body_ok (sc : Dt) (cell : Int) (d2 d3 d4 d5 d6 d7 d8 d9 d10 d11 d12 d13 d14 d15 : Dt) :
    ∃ e2 e3 e4 e5 e6 e7 e8 e9 e10 e11 e12 e13 e14 e15, g_law_L2 [sc, .int cell, d2, d3, d4, d5, d6, d7, d8, d9, d10, d11, d12, d13, d14, d15]
      = .ok (.nx [sc, .int cell, e2, e3, e4, e5, e6, e7, e8, e9, e10, e11, e12, e13, e14, e15]) := by
  obtain ⟨N, hN, lN, bN⟩ := numbers_ok cell 100 (by omega) (by omega)
  have hN : f_l_numbers [.int cell, .int 100, .int 1000000000000000000000000000000] = .ok (.list (N.map .int)) := hN
  have lN : N.length = 100 := lN
  obtain ⟨x0, i0, b0⟩ := ix_ok bN (i := 0) (by omega) (by omega)
  obtain ⟨x1, i1, b1⟩ := ix_ok bN (i := 1) (by omega) (by omega)
  obtain ⟨x2, i2, b2⟩ := ix_ok bN (i := 2) (by omega) (by omega)
  obtain ⟨x3, i3, b3⟩ := ix_ok bN (i := 3) (by omega) (by omega)
  obtain ⟨x4, i4, b4⟩ := ix_ok bN (i := 4) (by omega) (by omega)
  obtain ⟨x5, i5, b5⟩ := ix_ok bN (i := 5) (by omega) (by omega)
  obtain ⟨n, r, hR, n1, n10, hrec, _⟩ := record_ok (ns := N.drop 6) (most := 30) (fun x hx => bN x (List.mem_of_mem_drop hx)) (by rw [List.length_drop]; omega) (by rw [List.length_drop]; omega) (by omega) (by omega)
  have hr := hrec.len
  have ho := hrec.ord
  have hin : InN n r := fun t ht => by
    have q := hrec.ties t ht
    have := q.a0; have := q.ab; have := q.bn
    exact ⟨⟨by omega, by omega⟩, by omega, by omega⟩
  have hma := hMod_i (i := x0) (show 0 < n by omega)
  have hmb := hMod_i (i := x1) (show 0 < n by omega)
  have a0 := Int.emod_nonneg x0 (show n ≠ 0 by omega)
  have an := Int.emod_lt_of_pos x0 (show 0 < n by omega)
  have b0' := Int.emod_nonneg x1 (show n ≠ 0 by omega)
  have bn := Int.emod_lt_of_pos x1 (show 0 < n by omega)
  generalize x0 % n = a at *
  generalize x1 % n = b at *
  have hm2 := hMod_i (i := x2) (show (0 : Int) < (r.length : Int) + 1 by omega)
  have c0 := Int.emod_nonneg x2 (show (r.length : Int) + 1 ≠ 0 by omega)
  have c1 := Int.emod_lt_of_pos x2 (show (0 : Int) < (r.length : Int) + 1 by omega)
  generalize x2 % ((r.length : Int) + 1) = q at *
  obtain ⟨t, ht, t0⟩ : ∃ t : Int, hIx (.list ((r.map (fun u : T3 => u.1) ++ [0]).map .int)) (.int q) = .ok (.int t) ∧ 0 ≤ t := by
    have hq : q.toNat < (r.map (fun u : T3 => u.1) ++ [(0 : Int)]).length := by rw [List.length_append, List.length_map, List.length_singleton]; omega
    refine ⟨_, hIx_ints c0 (by omega), ?_⟩
    rcases List.mem_append.mp (List.getElem_mem hq) with z | z
    · obtain ⟨u, hu, e⟩ := List.mem_map.mp z
      rw [← e]
      exact (hrec.ties u hu).m0
    · rw [List.mem_singleton.mp z]
      omega
  have hlc : gLc (gSeq (gVar 4)) (tgN 8) (gYes) (gOp hIx (gVar 8) (gC (.int (0)))) [sc, .int cell, .list (N.map .int), .int n, .list (r.map enc3), .int a, .int b, d7, d8, d9, d10, d11, d12, d13, d14, d15] = .ok (.list ((r.map (fun u : T3 => u.1)).map .int)) := by
    rw [gLc_map enc3 (fun _ => true) (fun t => PyData.int t.1) (xs := r) (by rfl) (by omega) fun s _ => ⟨_, rfl, rfl, fun _ => rfl⟩, List.filter_eq_self.mpr (fun _ _ => rfl), map1]
  have hcat : hCat (.list ((r.map (fun u : T3 => u.1)).map .int)) (.list [.int 0]) = .ok (.list ((r.map (fun u : T3 => u.1) ++ [0]).map .int)) := hCat_map PyData.int (r.map (fun u : T3 => u.1)) [0] (by rw [List.length_map, List.length_singleton]; omega)
  obtain ⟨e9, e10, e11, e12, e13, hA⟩ := partA hin ho hr n1 n10 a0 an b0' bn t0 i3 sc (.int cell) d8 d9 d10 d11 d12 d13 d14 d15
  obtain ⟨e14, e15, hB⟩ := partB (a := a) (b := b) (t := t) hin ho hr n1 n10 i3 i4 i5 b5.1 sc (.int cell) d8 e9 e10 e11 e12 e13 d14 d15
  refine ⟨.list (N.map .int), .int n, .list (r.map enc3), .int a, .int b, .int t, d8, e9, e10, e11, e12, e13, e14, e15, ?_⟩
  unfold g_law_L2
  apply seq_step
  · simp (disch := first | omega | with_unfolding_all rfl | assumption | decide | (simp only [List.length_cons, List.length_nil]; omega)) only [bnd_ok, gVar_def, gC_def, gOp_def, gUn_def, gNil_def, gCons_def, gIf_def, gTest_def, gNot_def, gAnd_def, gOr_def, gAndV_def, gOrV_def, gNotV_def, gCB_def, asB_b, hAdd_i, hSub_i, hLt_i, hLe_i, hGt_i, hGe_i, hMul_r, hMul_l, hMod_i, hDiv_s, hBand_i, hShr_i, hPow_10_18, hPow_10_27, hPow_10_28, hPow_10_29, hPow_10_30, hEq_i, hNe_i, hLen_l, hLen_t, hMin2_i, hMax2_i, hMin3_i, hInt1_b, hInt1_i, hBits_i, hListOf_l, hListOf_t, hTupOf_l, hTupOf_t, gSeqS_def, gSet_def, gRet_def, gIfS_def, gNext_def, gTup_def, gLst_def, List.getElem?_cons_zero, List.getElem?_cons_succ, List.set_cons_zero, List.set_cons_succ, List.length_cons, List.length_nil, Nat.zero_add, Nat.reduceAdd, Nat.reduceLeDiff, Nat.reduceSub, Nat.reduceMul, if_true, if_false, Bool.false_eq_true, List.replicate_succ, List.replicate_zero, List.cons_append, List.nil_append, tgN, tgT, tgCons, tgNil, Int.reducePow, Int.reduceAdd, Int.reduceSub, Int.reduceMul, decide_true, decide_false, Bool.not_true, Bool.not_false, gChain_def, hIsa_int, hIsa_intb, hIsa_list, hIsa_tuple, gDrop_def, gCallN_def, gAsg_def, gSl_def, gNoPart_def, gPart_def, hSl_from', hSl_to', hN]
    rfl
  apply seq_step
  · simp (disch := first | omega | with_unfolding_all rfl | assumption | decide | (simp only [List.length_cons, List.length_nil]; omega)) only [bnd_ok, gVar_def, gC_def, gOp_def, gUn_def, gNil_def, gCons_def, gIf_def, gTest_def, gNot_def, gAnd_def, gOr_def, gAndV_def, gOrV_def, gNotV_def, gCB_def, asB_b, hAdd_i, hSub_i, hLt_i, hLe_i, hGt_i, hGe_i, hMul_r, hMul_l, hMod_i, hDiv_s, hBand_i, hShr_i, hPow_10_18, hPow_10_27, hPow_10_28, hPow_10_29, hPow_10_30, hEq_i, hNe_i, hLen_l, hLen_t, hMin2_i, hMax2_i, hMin3_i, hInt1_b, hInt1_i, hBits_i, hListOf_l, hListOf_t, hTupOf_l, hTupOf_t, gSeqS_def, gSet_def, gRet_def, gIfS_def, gNext_def, gTup_def, gLst_def, List.getElem?_cons_zero, List.getElem?_cons_succ, List.set_cons_zero, List.set_cons_succ, List.length_cons, List.length_nil, Nat.zero_add, Nat.reduceAdd, Nat.reduceLeDiff, Nat.reduceSub, Nat.reduceMul, if_true, if_false, Bool.false_eq_true, List.replicate_succ, List.replicate_zero, List.cons_append, List.nil_append, tgN, tgT, tgCons, tgNil, Int.reducePow, Int.reduceAdd, Int.reduceSub, Int.reduceMul, decide_true, decide_false, Bool.not_true, Bool.not_false, gChain_def, hIsa_int, hIsa_intb, hIsa_list, hIsa_tuple, gDrop_def, gCallN_def, gAsg_def, gSl_def, gNoPart_def, gPart_def, hSl_from', hSl_to', hR, Int.reduceToNat]
    rfl
  refine seq_step (set_ok (d := .int a) (by simp only [bnd_ok, gVar_def, gC_def, gOp_def, gUn_def, gNil_def, gCons_def, gIf_def, gTest_def, gNot_def, gAnd_def, gOr_def, gAndV_def, gOrV_def, gNotV_def, gCB_def, asB_b, hAdd_i, hSub_i, hLt_i, hLe_i, hGt_i, hGe_i, hMul_r, hMul_l, hMod_i, hDiv_s, hBand_i, hShr_i, hPow_10_18, hPow_10_27, hPow_10_28, hPow_10_29, hPow_10_30, hEq_i, hNe_i, hLen_l, hLen_t, hMin2_i, hMax2_i, hMin3_i, hInt1_b, hInt1_i, hBits_i, hListOf_l, hListOf_t, hTupOf_l, hTupOf_t, gSeqS_def, gSet_def, gRet_def, gIfS_def, gNext_def, gTup_def, gLst_def, List.getElem?_cons_zero, List.getElem?_cons_succ, List.set_cons_zero, List.set_cons_succ, List.length_cons, List.length_nil, Nat.zero_add, Nat.reduceAdd, Nat.reduceLeDiff, Nat.reduceSub, Nat.reduceMul, if_true, if_false, Bool.false_eq_true, List.replicate_succ, List.replicate_zero, List.cons_append, List.nil_append, tgN, tgT, tgCons, tgNil, Int.reducePow, Int.reduceAdd, Int.reduceSub, Int.reduceMul, decide_true, decide_false, Bool.not_true, Bool.not_false, gChain_def, hIsa_int, hIsa_intb, hIsa_list, hIsa_tuple, gDrop_def, i0, hma])) ?_
  dsimp only [List.set]
  refine seq_step (set_ok (d := .int b) (by simp only [bnd_ok, gVar_def, gC_def, gOp_def, gUn_def, gNil_def, gCons_def, gIf_def, gTest_def, gNot_def, gAnd_def, gOr_def, gAndV_def, gOrV_def, gNotV_def, gCB_def, asB_b, hAdd_i, hSub_i, hLt_i, hLe_i, hGt_i, hGe_i, hMul_r, hMul_l, hMod_i, hDiv_s, hBand_i, hShr_i, hPow_10_18, hPow_10_27, hPow_10_28, hPow_10_29, hPow_10_30, hEq_i, hNe_i, hLen_l, hLen_t, hMin2_i, hMax2_i, hMin3_i, hInt1_b, hInt1_i, hBits_i, hListOf_l, hListOf_t, hTupOf_l, hTupOf_t, gSeqS_def, gSet_def, gRet_def, gIfS_def, gNext_def, gTup_def, gLst_def, List.getElem?_cons_zero, List.getElem?_cons_succ, List.set_cons_zero, List.set_cons_succ, List.length_cons, List.length_nil, Nat.zero_add, Nat.reduceAdd, Nat.reduceLeDiff, Nat.reduceSub, Nat.reduceMul, if_true, if_false, Bool.false_eq_true, List.replicate_succ, List.replicate_zero, List.cons_append, List.nil_append, tgN, tgT, tgCons, tgNil, Int.reducePow, Int.reduceAdd, Int.reduceSub, Int.reduceMul, decide_true, decide_false, Bool.not_true, Bool.not_false, gChain_def, hIsa_int, hIsa_intb, hIsa_list, hIsa_tuple, gDrop_def, i1, hmb])) ?_
  dsimp only [List.set]
  refine seq_step (set_ok (d := .int t) ?_) ?_
  · have hl0 : gLst (gCons (gC (.int (0))) (gNil)) [sc, .int cell, .list (N.map .int), .int n, .list (r.map enc3), .int a, .int b, d7, d8, d9, d10, d11, d12, d13, d14, d15] = .ok (.list [.int 0]) := rfl
    have hi : gOp hMod (gOp hIx (gVar 2) (gC (.int (2)))) (gOp hAdd (gCB hLen (gCons (gVar 4) (gNil))) (gC (.int (1)))) [sc, .int cell, .list (N.map .int), .int n, .list (r.map enc3), .int a, .int b, d7, d8, d9, d10, d11, d12, d13, d14, d15] = .ok (.int q) := by
      simp only [bnd_ok, gVar_def, gC_def, gOp_def, gUn_def, gNil_def, gCons_def, gIf_def, gTest_def, gNot_def, gAnd_def, gOr_def, gAndV_def, gOrV_def, gNotV_def, gCB_def, asB_b, hAdd_i, hSub_i, hLt_i, hLe_i, hGt_i, hGe_i, hMul_r, hMul_l, hMod_i, hDiv_s, hBand_i, hShr_i, hPow_10_18, hPow_10_27, hPow_10_28, hPow_10_29, hPow_10_30, hEq_i, hNe_i, hLen_l, hLen_t, hMin2_i, hMax2_i, hMin3_i, hInt1_b, hInt1_i, hBits_i, hListOf_l, hListOf_t, hTupOf_l, hTupOf_t, gSeqS_def, gSet_def, gRet_def, gIfS_def, gNext_def, gTup_def, gLst_def, List.getElem?_cons_zero, List.getElem?_cons_succ, List.set_cons_zero, List.set_cons_succ, List.length_cons, List.length_nil, Nat.zero_add, Nat.reduceAdd, Nat.reduceLeDiff, Nat.reduceSub, Nat.reduceMul, if_true, if_false, Bool.false_eq_true, List.replicate_succ, List.replicate_zero, List.cons_append, List.nil_append, tgN, tgT, tgCons, tgNil, Int.reducePow, Int.reduceAdd, Int.reduceSub, Int.reduceMul, decide_true, decide_false, Bool.not_true, Bool.not_false, gChain_def, hIsa_int, hIsa_intb, hIsa_list, hIsa_tuple, gDrop_def, List.length_map, i2, hm2]
    rw [gOp_def, hi, gOp_def, hlc, hl0]
    simp only [bnd_ok, hcat, ht]
  dsimp only [List.set]
  refine seq_step hA ?_
  exact hB
theorem law_true (ns : List Int) (hl : ns.length ≤ 63) (_ : ∀ z ∈ ns, Builtin.Int.intBits z ≤ 1048576) : f_law [.list (ns.map .int)] = .ok (.bool true) := by
  refine fnN_rt ?_
  obtain ⟨ρ', hf, e1, e2, e3, e4, e5, e6, e7, e8, e9, e10, e11, e12, e13, e14, e15, rfl⟩ := forE_ix PyData.int (h := tgN 1) (b := g_law_L2) (ns.take 5 ++ [(ns.length : Int)])
    (fun _ ρ => ∃ e1 e2 e3 e4 e5 e6 e7 e8 e9 e10 e11 e12 e13 e14 e15, ρ = [.list (ns.map .int), e1, e2, e3, e4, e5, e6, e7, e8, e9, e10, e11, e12, e13, e14, e15])
    (ρ := [.list (ns.map .int), .none, .none, .none, .none, .none, .none, .none, .none, .none, .none, .none, .none, .none, .none, .none]) ⟨_, _, _, _, _, _, _, _, _, _, _, _, _, _, _, rfl⟩ (by
      rintro i ρ hi ⟨e1, e2, e3, e4, e5, e6, e7, e8, e9, e10, e11, e12, e13, e14, e15, rfl⟩
      obtain ⟨f2, f3, f4, f5, f6, f7, f8, f9, f10, f11, f12, f13, f14, f15, h1⟩ := body_ok (.list (ns.map .int)) (ns.take 5 ++ [(ns.length : Int)])[i] e2 e3 e4 e5 e6 e7 e8 e9 e10 e11 e12 e13 e14 e15
      exact ⟨_, _, rfl, .inl h1, _, f2, f3, f4, f5, f6, f7, f8, f9, f10, f11, f12, f13, f14, f15, rfl⟩)
  show g_law [.list (ns.map .int), .none, .none, .none, .none, .none, .none, .none, .none, .none, .none, .none, .none, .none, .none, .none] = _
  unfold g_law
  have hc : hCat (.list ((ns.take 5).map .int)) (.list [.int ns.length]) = .ok (.list ((ns.take 5 ++ [(ns.length : Int)]).map .int)) := hCat_map PyData.int (ns.take 5) [(ns.length : Int)] (by rw [List.length_take, List.length_singleton]; omega)
  refine seq_step (for_ok (ds := (ns.take 5 ++ [(ns.length : Int)]).map .int) (seqG_l ?_) hf) ?_
  · simp (disch := first | omega | decide) only [bnd_ok, gVar_def, gC_def, gOp_def, gUn_def, gNil_def, gCons_def, gIf_def, gTest_def, gNot_def, gAnd_def, gOr_def, gAndV_def, gOrV_def, gNotV_def, gCB_def, asB_b, hAdd_i, hSub_i, hLt_i, hLe_i, hGt_i, hGe_i, hMul_r, hMul_l, hMod_i, hDiv_s, hBand_i, hShr_i, hPow_10_18, hPow_10_27, hPow_10_28, hPow_10_29, hPow_10_30, hEq_i, hNe_i, hLen_l, hLen_t, hMin2_i, hMax2_i, hMin3_i, hInt1_b, hInt1_i, hBits_i, hListOf_l, hListOf_t, hTupOf_l, hTupOf_t, gSeqS_def, gSet_def, gRet_def, gIfS_def, gNext_def, gTup_def, gLst_def, List.getElem?_cons_zero, List.getElem?_cons_succ, List.set_cons_zero, List.set_cons_succ, List.length_cons, List.length_nil, Nat.zero_add, Nat.reduceAdd, Nat.reduceLeDiff, Nat.reduceSub, Nat.reduceMul, if_true, if_false, Bool.false_eq_true, List.replicate_succ, List.replicate_zero, List.cons_append, List.nil_append, tgN, tgT, tgCons, tgNil, Int.reducePow, Int.reduceAdd, Int.reduceSub, Int.reduceMul, decide_true, decide_false, Bool.not_true, Bool.not_false, gChain_def, hIsa_int, hIsa_intb, hIsa_list, hIsa_tuple, gDrop_def, gCallN_def, gAsg_def, gSl_def, gNoPart_def, gPart_def, hSl_from', hSl_to', Int.reduceToNat, List.length_map, hc]
  · simp only [bnd_ok, gVar_def, gC_def, gOp_def, gUn_def, gNil_def, gCons_def, gIf_def, gTest_def, gNot_def, gAnd_def, gOr_def, gAndV_def, gOrV_def, gNotV_def, gCB_def, asB_b, hAdd_i, hSub_i, hLt_i, hLe_i, hGt_i, hGe_i, hMul_r, hMul_l, hMod_i, hDiv_s, hBand_i, hShr_i, hPow_10_18, hPow_10_27, hPow_10_28, hPow_10_29, hPow_10_30, hEq_i, hNe_i, hLen_l, hLen_t, hMin2_i, hMax2_i, hMin3_i, hInt1_b, hInt1_i, hBits_i, hListOf_l, hListOf_t, hTupOf_l, hTupOf_t, gSeqS_def, gSet_def, gRet_def, gIfS_def, gNext_def, gTup_def, gLst_def, List.getElem?_cons_zero, List.getElem?_cons_succ, List.set_cons_zero, List.set_cons_succ, List.length_cons, List.length_nil, Nat.zero_add, Nat.reduceAdd, Nat.reduceLeDiff, Nat.reduceSub, Nat.reduceMul, if_true, if_false, Bool.false_eq_true, List.replicate_succ, List.replicate_zero, List.cons_append, List.nil_append, tgN, tgT, tgCons, tgNil, Int.reducePow, Int.reduceAdd, Int.reduceSub, Int.reduceMul, decide_true, decide_false, Bool.not_true, Bool.not_false, gChain_def, hIsa_int, hIsa_intb, hIsa_list, hIsa_tuple, gDrop_def]
end K59
end T_K59Q
open PySem PySem.W PyProof.Rows
set_option maxRecDepth 100000 in
set_option maxHeartbeats 0 in
theorem PySem.Challenge.cw_sinceply_k59_whole_papers_never_cross_holds : PySem.Challenge.rw_sinceply_k59_whole_papers_never_cross.Holds := by
  w_on; o_law; k_head; (case hw => w_witness2)
  k_fill
  refine L2.walk_ofB (l := PySem.Challenge.rw_sinceply_k59_whole_papers_never_cross) (n := 63) (k := 7) (x := "script") (CX := fun _ => L2.CX0) (sp := fun w => Sim.spLaw _ K59.f_law) rfl (by decide) rfl ⟨rfl, by decide, by decide⟩ (fun w h Y => PySem.W.kIn_of Y) ?F (fun _ _ a ns hl hb _ hS => Sim.spLaw_of hS (K59.law_true ns hl hb)) (fun _ _ _ _ _ h => h)
  case F =>
    intro w mg fa h KX G hmg
    refine' Sim.okLaw_of (K59.all_mk KX G hmg ?a0 ?l0 ?c0 ?k0 ?a1 ?l1 ?c1 ?k1 ?a2 ?l2 ?c2 ?k2 ?a3 ?l3 ?c3 ?k3 ?a4 ?l4 ?c4 ?k4 ?a5 ?l5 ?c5 ?k5 ?a6 ?l6 ?c6 ?k6 ?a7 ?l7 ?c7 ?k7 ?a8 ?l8 ?c8 ?k8 ?a9 ?l9 ?c9 ?k9 ?a10 ?l10 ?c10 ?k10 ?a11 ?l11 ?c11 ?k11 ?a12 ?l12 ?c12 ?k12 ?a13 ?l13 ?c13 ?k13 ?a14 ?l14 ?c14 ?k14 ?a15 ?l15 ?c15 ?k15 ?a16 ?l16 ?c16 ?k16 ?a17 ?l17 ?c17 ?k17 ?a18 ?l18 ?c18 ?k18 ?a19 ?l19 ?c19 ?k19 ?a20 ?l20 ?c20 ?k20 ?a21 ?l21 ?c21 ?k21 ?a22 ?l22 ?c22 ?k22 ?a23 ?l23 ?c23 ?k23 ?a24 ?l24 ?c24 ?k24 ?a25 ?l25 ?c25 ?k25 ?a26 ?l26 ?c26 ?k26 ?a27 ?l27 ?c27 ?k27 ?z_isinstance ?z_int ?z_bool ?z_min ?z_max ?z_list ?z_all ?z_len ?z_tuple ?z_range ?z_enumerate ?z_reversed ?y_MOST_LAYERS)
    (case a0 => k_is); (case l0 => k_is); (case c0 => k_is); (case k0 => k_is); (case a1 => k_is); (case l1 => k_is); (case c1 => k_is); (case k1 => k_is); (case a2 => k_is); (case l2 => k_is); (case c2 => k_is); (case k2 => k_is); (case a3 => k_is); (case l3 => k_is); (case c3 => k_is); (case k3 => k_is); (case a4 => k_is); (case l4 => k_is); (case c4 => k_is); (case k4 => k_is); (case a5 => k_is); (case l5 => k_is); (case c5 => k_is); (case k5 => k_is); (case a6 => k_is); (case l6 => k_is); (case c6 => k_is); (case k6 => k_is); (case a7 => k_is); (case l7 => k_is); (case c7 => k_is); (case k7 => k_is); (case a8 => k_is); (case l8 => k_is); (case c8 => k_is); (case k8 => k_is); (case a9 => k_is); (case l9 => k_is); (case c9 => k_is); (case k9 => k_is); (case a10 => k_is); (case l10 => k_is); (case c10 => k_is); (case k10 => k_is); (case a11 => k_is); (case l11 => k_is); (case c11 => k_is); (case k11 => k_is); (case a12 => k_is); (case l12 => k_is); (case c12 => k_is); (case k12 => k_is); (case a13 => k_is); (case l13 => k_is); (case c13 => k_is); (case k13 => k_is); (case a14 => k_is); (case l14 => k_is); (case c14 => k_is); (case k14 => k_is); (case a15 => k_is); (case l15 => k_is); (case c15 => k_is); (case k15 => k_is); (case a16 => k_is); (case l16 => k_is); (case c16 => k_is); (case k16 => k_is); (case a17 => k_is); (case l17 => k_is); (case c17 => k_is); (case k17 => k_is); (case a18 => k_is); (case l18 => k_is); (case c18 => k_is); (case k18 => k_is); (case a19 => k_is); (case l19 => k_is); (case c19 => k_is); (case k19 => k_is); (case a20 => k_is); (case l20 => k_is); (case c20 => k_is); (case k20 => k_is); (case a21 => k_is); (case l21 => k_is); (case c21 => k_is); (case k21 => k_is); (case a22 => k_is); (case l22 => k_is); (case c22 => k_is); (case k22 => k_is); (case a23 => k_is); (case l23 => k_is); (case c23 => k_is); (case k23 => k_is); (case a24 => k_is); (case l24 => k_is); (case c24 => k_is); (case k24 => k_is); (case a25 => k_is); (case l25 => k_is); (case c25 => k_is); (case k25 => k_is); (case a26 => k_is); (case l26 => k_is); (case c26 => k_is); (case k26 => k_is); (case a27 => k_is); (case l27 => k_is); (case c27 => k_is); (case k27 => k_is); (case z_isinstance => k_is); (case z_int => k_is); (case z_bool => k_is); (case z_min => k_is); (case z_max => k_is); (case z_list => k_is); (case z_all => k_is); (case z_len => k_is); (case z_tuple => k_is); (case z_range => k_is); (case z_enumerate => k_is); (case z_reversed => k_is); (case y_MOST_LAYERS => k_is)
