import PyProof.Rows.All
import Wide.All
import OpenK.AllK
import Wide.FinOn
import HandS.EndBits
import HandS.ForMost
import HandS.Walk
import HandS.Wide
import HandS.ForExc
import HandS.SortInts
import HandS.Deep
import HandS.WideBits
import HandS.TupAny
import HandS.IsInst
import HandS.Iter
import HandS.Rev
import HandS.RevTup
import HandS.Conv
import PyProof.ListRange
import HandS.Dict
import HandS.Style
import HandS.TupSets
import HandS.SetFor
import HandS.Defaults
import PySem.Challenge.RW_sinceply_k49_order_and_bands_told
section T_SimA
set_option Elab.async false
set_option linter.all false
set_option maxRecDepth 100000
/-! SimA: a plain functional reading (closures over PyData) of the hand layer's readings. -/
namespace Sim
open PySem PySem.Spec L2
open PyProof.Rows hiding St

abbrev Dt := PyData

/-! ### what stands for a datum -/
def Fz (K : PySem.W.Frag) (H : Hp) (a : Addr) (xs : List V) : Prop :=
  (∃ o, H a = some (.frz o (.lst xs))) ∨
    ∃ (o : Obj) (its : Array Value) (n : Nat), K.lookup a = some o ∧ o.cls = .type "list" ∧ o.dict = none ∧ o.data = .seq its n ∧ its.size ≤ sizeLine ∧ Vals xs its.toList

mutual
inductive Rp (K : PySem.W.Frag) (F : Addr → Prop) (H : Hp) : V → Dt → Prop
  | non : Rp K F H .non .none
  | bl (b : Bool) : Rp K F H (.bl b) (.bool b)
  | int (i : Int) : Rp K F H (.int i) (.int i)
  | str (x : Str) : Rp K F H (.str x) (.str x)
  | lst {a : Addr} {xs : List V} {ds : List Dt} : H a = some (.lst xs) → F a → RpA K F H xs ds → Rp K F H (.ref a) (.list ds)
  | fz {a : Addr} {xs : List V} {ds : List Dt} : Fz K H a xs → RpA K F H xs ds → Rp K F H (.ref a) (.list ds)
  | tup {a : Addr} {xs : List V} {ds : List Dt} : SqT K H a xs → RpA K F H xs ds → Rp K F H (.ref a) (.tuple ds)
inductive RpA (K : PySem.W.Frag) (F : Addr → Prop) (H : Hp) : List V → List Dt → Prop
  | nil : RpA K F H [] []
  | cons {v : V} {vs : List V} {d : Dt} {ds : List Dt} : Rp K F H v d → RpA K F H vs ds → RpA K F H (v :: vs) (d :: ds)
end

section
variable {K : PySem.W.Frag} {F F' : Addr → Prop} {H H' : Hp} {v : V} {d : Dt} {vs : List V} {ds : List Dt} {a p : Addr} {xs : List V}

theorem Fz.same (e : Same H H') (h : Fz K H a xs) : Fz K H' a xs := by
  rcases h with ⟨o, h⟩ | h
  · exact .inl ⟨o, e _ _ h⟩
  · exact .inr h
theorem Fz.sql (h : Fz K H a xs) : SqL K H a xs := by
  rcases h with ⟨o, h⟩ | h
  · exact .inl (.inr ⟨o, h⟩)
  · exact .inr h
theorem sqt_same (e : Same H H') (h : SqT K H a xs) : SqT K H' a xs := by
  rcases h with (h | ⟨o, h⟩) | h
  · exact .inl (.inl (e _ _ h))
  · exact .inl (.inr ⟨o, e _ _ h⟩)
  · exact .inr h

mutual
theorem Rp.mono (e : Same H H') (f : ∀ a, F a → H a ≠ none → F' a) : ∀ {v : V} {d : Dt}, Rp K F H v d → Rp K F' H' v d
  | _, _, .non => .non
  | _, _, .bl b => .bl b
  | _, _, .int i => .int i
  | _, _, .str x => .str x
  | _, _, .lst h fa r => .lst (e _ _ h) (f _ fa (by rw [h]; exact fun z => nomatch z)) (RpA.mono e f r)
  | _, _, .fz h r => .fz (h.same e) (RpA.mono e f r)
  | _, _, .tup h r => .tup (sqt_same e h) (RpA.mono e f r)
theorem RpA.mono (e : Same H H') (f : ∀ a, F a → H a ≠ none → F' a) : ∀ {vs : List V} {ds : List Dt}, RpA K F H vs ds → RpA K F' H' vs ds
  | _, _, .nil => .nil
  | _, _, .cons h r => .cons (Rp.mono e f h) (RpA.mono e f r)
end
/-- what holds a place of its own (no tuple, not locked) -/
def Mutb (o : HO) : Prop := match o with
  | .lst _ => True
  | .dK _ => True
  | .dT _ => True
  | _ => False
theorem Fz.updM {o o' : HO} (hp : H p = some o) (m : Mutb o) (h : Fz K H a xs) : Fz K (upd H p o') a xs := by
  rcases h with ⟨q, h⟩ | h
  · refine .inl ⟨q, ?_⟩
    rw [upd_ne ?_]
    · exact h
    · intro z
      subst z
      rw [hp] at h
      cases h
      exact m
  · exact .inr h
theorem sqt_updM {o o' : HO} (hp : H p = some o) (m : Mutb o) (h : SqT K H a xs) : SqT K (upd H p o') a xs := by
  rcases h with (h | ⟨q, h⟩) | h
  · refine .inl (.inl ?_)
    rw [upd_ne ?_]
    · exact h
    · intro z
      subst z
      rw [hp] at h
      cases h
      exact m
  · refine .inl (.inr ⟨q, ?_⟩)
    rw [upd_ne ?_]
    · exact h
    · intro z
      subst z
      rw [hp] at h
      cases h
      exact m
  · exact .inr h
mutual
theorem Rp.updM {o o' : HO} (hp : H p = some o) (m : Mutb o) (nf : ∀ a, F a → a ≠ p) : ∀ {v : V} {d : Dt}, Rp K F H v d → Rp K F (upd H p o') v d
  | _, _, .non => .non
  | _, _, .bl b => .bl b
  | _, _, .int i => .int i
  | _, _, .str x => .str x
  | _, _, .lst h fa r => .lst (by rw [upd_ne (nf _ fa)]; exact h) fa (RpA.updM hp m nf r)
  | _, _, .fz h r => .fz (h.updM hp m) (RpA.updM hp m nf r)
  | _, _, .tup h r => .tup (sqt_updM hp m h) (RpA.updM hp m nf r)
theorem RpA.updM {o o' : HO} (hp : H p = some o) (m : Mutb o) (nf : ∀ a, F a → a ≠ p) : ∀ {vs : List V} {ds : List Dt}, RpA K F H vs ds → RpA K F (upd H p o') vs ds
  | _, _, .nil => .nil
  | _, _, .cons h r => .cons (Rp.updM hp m nf h) (RpA.updM hp m nf r)
end
mutual
theorem Rp.dp : ∀ {v : V} {d : Dt}, Rp K F H v d → Dp K H v d
  | _, _, .non => .non
  | _, _, .bl b => .bl b
  | _, _, .int i => .int i
  | _, _, .str x => .str x
  | _, _, .lst h _ r => .lst (.inl (.inl h)) (RpA.dp r)
  | _, _, .fz h r => .lst h.sql (RpA.dp r)
  | _, _, .tup h r => .tup h (RpA.dp r)
theorem RpA.dp : ∀ {vs : List V} {ds : List Dt}, RpA K F H vs ds → DpAll K H vs ds
  | _, _, .nil => .nil
  | _, _, .cons h r => .cons (Rp.dp h) (RpA.dp r)
end
theorem RpA.length : ∀ {vs : List V} {ds : List Dt}, RpA K F H vs ds → vs.length = ds.length
  | _, _, .nil => rfl
  | _, _, .cons _ r => by rw [List.length_cons, List.length_cons, r.length]
theorem RpA.get : ∀ {vs : List V} {ds : List Dt} {i : Nat} {v : V}, RpA K F H vs ds → vs[i]? = some v → ∃ d, ds[i]? = some d ∧ Rp K F H v d
  | _, _, _, _, .nil, e => by simp at e
  | _, _, 0, _, .cons h _, e => by simp at e; subst e; exact ⟨_, rfl, h⟩
  | _, _, i + 1, v, .cons _ r, e => by
    obtain ⟨d, h1, h2⟩ := RpA.get (i := i) (v := v) r (by simpa using e)
    exact ⟨d, by simpa using h1, h2⟩
theorem RpA.get' : ∀ {vs : List V} {ds : List Dt} {i : Nat} {d : Dt}, RpA K F H vs ds → ds[i]? = some d → ∃ v, vs[i]? = some v ∧ Rp K F H v d
  | _, _, _, _, .nil, e => by simp at e
  | _, _, 0, _, .cons h _, e => by simp at e; subst e; exact ⟨_, rfl, h⟩
  | _, _, i + 1, d, .cons _ r, e => by
    obtain ⟨v, h1, h2⟩ := RpA.get' (i := i) (d := d) r (by simpa using e)
    exact ⟨v, by simpa using h1, h2⟩
theorem RpA.append : ∀ {xs ys : List V} {ds es : List Dt}, RpA K F H xs ds → RpA K F H ys es → RpA K F H (xs ++ ys) (ds ++ es)
  | _, _, _, _, .nil, s => s
  | _, _, _, _, .cons h r, s => .cons h (RpA.append r s)
theorem RpA.take : ∀ {xs : List V} {ds : List Dt} (n : Nat), RpA K F H xs ds → RpA K F H (xs.take n) (ds.take n)
  | _, _, 0, _ => .nil
  | _, _, _ + 1, .nil => .nil
  | _, _, n + 1, .cons h r => .cons h (RpA.take n r)
theorem RpA.drop : ∀ {xs : List V} {ds : List Dt} (n : Nat), RpA K F H xs ds → RpA K F H (xs.drop n) (ds.drop n)
  | _, _, 0, r => r
  | _, _, _ + 1, .nil => .nil
  | _, _, n + 1, .cons _ r => RpA.drop n r
theorem RpA.set {x : V} {d : Dt} (h : Rp K F H x d) : ∀ {xs : List V} {ds : List Dt} (i : Nat), RpA K F H xs ds → RpA K F H (xs.set i x) (ds.set i d)
  | _, _, _, .nil => .nil
  | _, _, 0, .cons _ r => .cons h r
  | _, _, i + 1, .cons q r => .cons q (RpA.set h i r)
theorem RpA.reverse {xs : List V} {ds : List Dt} (h : RpA K F H xs ds) : RpA K F H xs.reverse ds.reverse := by
  induction xs generalizing ds with
  | nil => cases h; exact .nil
  | cons x xs ih =>
    cases h with
    | cons q r =>
      rw [List.reverse_cons, List.reverse_cons]
      exact (ih r).append (.cons q .nil)
theorem RpA.flat {xs : List V} {ds : List Dt} (h : RpA K F H xs ds) : ∀ k : Nat, RpA K F H (List.replicate k xs).flatten (List.replicate k ds).flatten
  | 0 => .nil
  | k + 1 => by
    rw [List.replicate_succ, List.replicate_succ, List.flatten_cons, List.flatten_cons]
    exact h.append (RpA.flat h k)
mutual
def pure1 : Dt → Bool
  | .list _ => false
  | .dict _ => false
  | .tuple xs => pureA xs
  | _ => true
def pureA : List Dt → Bool
  | [] => true
  | x :: xs => pure1 x && pureA xs
end
mutual
theorem Rp.pure : ∀ {v : V} {d : Dt}, Rp K F H v d → pure1 d = true → Rp K F' H v d
  | _, _, .non, _ => .non
  | _, _, .bl b, _ => .bl b
  | _, _, .int i, _ => .int i
  | _, _, .str x, _ => .str x
  | _, _, .lst h _ r, e => by rw [pure1] at e; cases e
  | _, _, .fz h r, e => by rw [pure1] at e; cases e
  | _, _, .tup h r, e => .tup h (RpA.pure r (by rw [pure1] at e; exact e))
theorem RpA.pure : ∀ {vs : List V} {ds : List Dt}, RpA K F H vs ds → pureA ds = true → RpA K F' H vs ds
  | _, _, .nil, _ => .nil
  | _, _, .cons h r, e => by
    rw [pureA, Bool.and_eq_true] at e
    exact .cons (Rp.pure h e.1) (RpA.pure r e.2)
end
theorem Rp.weak (f : ∀ a, F a → F' a) (h : Rp K F H v d) : Rp K F' H v d := h.mono (Same.refl H) fun a fa _ => f a fa
theorem RpA.weak (f : ∀ a, F a → F' a) (h : RpA K F H vs ds) : RpA K F' H vs ds := h.mono (Same.refl H) fun a fa _ => f a fa
theorem Rp.same (e : Same H H') (h : Rp K F H v d) : Rp K F H' v d := h.mono e fun a fa _ => fa
theorem RpA.same (e : Same H H') (h : RpA K F H vs ds) : RpA K F H' vs ds := h.mono e fun a fa _ => fa
/-- one thing stands for one datum -/
theorem Fz.inj_lst {ys : List V} (h : Fz K H a xs) (h' : H a = some (.lst ys)) : (∃ (o : Obj) (its : Array Value) (n : Nat), K.lookup a = some o ∧ o.cls = .type "list" ∧ o.dict = none ∧ o.data = .seq its n ∧ its.size ≤ sizeLine ∧ Vals xs its.toList) := by
  rcases h with ⟨o, h⟩ | h
  · rw [h] at h'; cases h'
  · exact h
end

/-! ### outcomes -/
structure Exn where
  cls : Str
  arg : Option Int
inductive O (α : Type) where
  | bad | ok (a : α) | ex (e : Exn)
def bnd {α β : Type} (x : O α) (f : α → O β) : O β := match x with
  | .bad => .bad
  | .ok a => f a
  | .ex e => .ex e
@[simp] theorem bnd_ok {α β : Type} (a : α) (f : α → O β) : bnd (.ok a) f = f a := rfl
@[simp] theorem bnd_bad {α β : Type} (f : α → O β) : bnd .bad f = .bad := rfl
@[simp] theorem bnd_ex {α β : Type} (e : Exn) (f : α → O β) : bnd (.ex e) f = .ex e := rfl

/-! ### kinds of slots, frames, states -/
inductive Ct where
  | l | dk | dt | la | ka
/-- an argument of one's own -/
def isArg : Ct → Bool
  | .la => true
  | .ka => true
  | _ => false
inductive Kd where
  | no | im (fr : Bool) | own (c : Ct) (fr : Bool)
structure Fm where
  H0 : Hp
  G : Addr → Prop
  Γ : List (List V × List Dt × Bool)
  P : List Addr
  A : Option Addr := none

def Ow (Δ : List Kd) (σ : St) (a : Addr) : Prop := ∃ (i : Nat) (c : Ct) (fr : Bool), Δ[i]? = some (Kd.own c fr) ∧ σ[i]? = some (some (V.ref a))
def FM (f : Fm) (Δ : List Kd) (σ : St) (av fr : Bool) (a : Addr) : Prop := (av = true → ¬ Ow Δ σ a ∧ a ∉ f.P) ∧ (fr = true → f.G a)

def keyD : Key → Dt
  | .inl i => .int i
  | .inr x => .str x
inductive KvA (K : PySem.W.Frag) (F : Addr → Prop) (H : Hp) : List (Key × V) → List (Dt × Dt) → Prop
  | nil : KvA K F H [] []
  | cons {k : Key} {v : V} {d : Dt} {kvs : List (Key × V)} {es : List (Dt × Dt)} : Rp K F H v d → KvA K F H kvs es → KvA K F H ((k, v) :: kvs) ((keyD k, d) :: es)
inductive KtA (K : PySem.W.Frag) (F : Addr → Prop) (H : Hp) : List (List Key × V) → List (Dt × Dt) → Prop
  | nil : KtA K F H [] []
  | cons {k : List Key} {v : V} {d : Dt} {kvs : List (List Key × V)} {es : List (Dt × Dt)} : Rp K F H v d → KtA K F H kvs es → KtA K F H ((k, v) :: kvs) ((.tuple (k.map keyD), d) :: es)
def OwC (K : PySem.W.Frag) (c : Ct) (F : Addr → Prop) (H : Hp) (p : Addr) (d : Dt) : Prop := match c with
  | .l => ∃ vs ds, d = .list ds ∧ H p = some (.lst vs) ∧ RpA K F H vs ds
  | .dk => ∃ kvs es, d = .dict es ∧ H p = some (.dK kvs) ∧ KvA K F H kvs es
  | .dt => ∃ kvs es, d = .dict es ∧ H p = some (.dT kvs) ∧ KtA K F H kvs es
  | .la => ∃ vs ds, d = .list ds ∧ H p = some (.lst vs) ∧ RpA K F H vs ds
  | .ka => ∃ kvs es, d = .dict es ∧ H p = some (.dK kvs) ∧ KvA K F H kvs es

section
variable {K : PySem.W.Frag} {F F' : Addr → Prop} {H H' : Hp} {p q : Addr} {d : Dt} {c : Ct}
theorem KvA.map {kvs es} (f : ∀ v d, Rp K F H v d → Rp K F' H' v d) : KvA K F H kvs es → KvA K F' H' kvs es
  | .nil => .nil
  | .cons h r => .cons (f _ _ h) (KvA.map f r)
theorem KtA.map {kvs es} (f : ∀ v d, Rp K F H v d → Rp K F' H' v d) : KtA K F H kvs es → KtA K F' H' kvs es
  | .nil => .nil
  | .cons h r => .cons (f _ _ h) (KtA.map f r)
theorem RpA.map {vs ds} (f : ∀ v d, Rp K F H v d → Rp K F' H' v d) : RpA K F H vs ds → RpA K F' H' vs ds
  | .nil => .nil
  | .cons h r => .cons (f _ _ h) (RpA.map f r)
theorem OwC.map (hp : ∀ o, H p = some o → H' p = some o) (f : ∀ v d, Rp K F H v d → Rp K F' H' v d) (h : OwC K c F H p d) : OwC K c F' H' p d := by
  cases c with
  | l => obtain ⟨vs, ds, e, h1, h2⟩ := h; exact ⟨vs, ds, e, hp _ h1, h2.map f⟩
  | dk => obtain ⟨vs, ds, e, h1, h2⟩ := h; exact ⟨vs, ds, e, hp _ h1, h2.map f⟩
  | dt => obtain ⟨vs, ds, e, h1, h2⟩ := h; exact ⟨vs, ds, e, hp _ h1, h2.map f⟩
  | la => obtain ⟨vs, ds, e, h1, h2⟩ := h; exact ⟨vs, ds, e, hp _ h1, h2.map f⟩
  | ka => obtain ⟨vs, ds, e, h1, h2⟩ := h; exact ⟨vs, ds, e, hp _ h1, h2.map f⟩
theorem OwC.mutb (h : OwC K c F H p d) : ∃ o, H p = some o ∧ Mutb o := by
  cases c with
  | l => obtain ⟨vs, ds, e, h1, h2⟩ := h; exact ⟨_, h1, trivial⟩
  | dk => obtain ⟨vs, ds, e, h1, h2⟩ := h; exact ⟨_, h1, trivial⟩
  | dt => obtain ⟨vs, ds, e, h1, h2⟩ := h; exact ⟨_, h1, trivial⟩
  | la => obtain ⟨vs, ds, e, h1, h2⟩ := h; exact ⟨_, h1, trivial⟩
  | ka => obtain ⟨vs, ds, e, h1, h2⟩ := h; exact ⟨_, h1, trivial⟩
theorem OwC.there (h : OwC K c F H p d) : H p ≠ none := by
  obtain ⟨o, e, _⟩ := h.mutb
  rw [e]
  exact fun z => nomatch z
end

structure R (K : PySem.W.Frag) (f : Fm) (Δ : List Kd) (ρ : List Dt) (σ : St) (H : Hp) : Prop where
  ext : Same f.H0 H
  g0 : ∀ a, f.H0 a = none → f.G a
  lσ : σ.length = Δ.length
  lρ : ρ.length = Δ.length
  inj : ∀ (i j : Nat) (ci : Ct) (fi : Bool) (cj : Ct) (fj : Bool) (p : Addr), Δ[i]? = some (Kd.own ci fi) → Δ[j]? = some (Kd.own cj fj) → σ[i]? = some (some (V.ref p)) → σ[j]? = some (some (V.ref p)) → i = j
  pin : ∀ a ∈ f.P, (∃ o, H a = some o ∧ Mutb o) ∧ ¬ Ow Δ σ a
  gh : ∀ g ∈ f.Γ, RpA K (FM f Δ σ true g.2.2) H g.1 g.2.1
  im : ∀ (i : Nat) (fr : Bool), Δ[i]? = some (Kd.im fr) → ∃ v d, σ[i]? = some (some v) ∧ ρ[i]? = some d ∧ Rp K (FM f Δ σ true fr) H v d
  ow : ∀ (i : Nat) (c : Ct) (fr : Bool), Δ[i]? = some (Kd.own c fr) → ∃ p d, σ[i]? = some (some (V.ref p)) ∧ ρ[i]? = some d ∧ f.H0 p = none ∧ OwC K c (FM f Δ σ true fr) H p d
  ar : ∀ (i : Nat) (c : Ct) (fr : Bool), Δ[i]? = some (Kd.own c fr) → isArg c = true → ∃ p, f.A = some p ∧ σ[i]? = some (some (V.ref p))

section
variable {K : PySem.W.Frag} {f : Fm} {Δ : List Kd} {ρ : List Dt} {σ : St} {H H' : Hp} {v : V} {d : Dt} {i : Nat} {p : Addr}

theorem FM.weak {av fr av' fr' : Bool} (h1 : av' = true → av = true) (h2 : fr' = true → fr = true) {a : Addr} (h : FM f Δ σ av fr a) : FM f Δ σ av' fr' a := ⟨fun e => h.1 (h1 e), fun e => h.2 (h2 e)⟩

theorem R.mono (r : R K f Δ ρ σ H) (e : Same H H') : R K f Δ ρ σ H' where
  ext := r.ext.trans e
  g0 := r.g0
  lσ := r.lσ
  lρ := r.lρ
  inj := r.inj
  pin := fun a ha => let ⟨⟨o, h1, h2⟩, h3⟩ := r.pin a ha; ⟨⟨o, e _ _ h1, h2⟩, h3⟩
  gh := fun g hg => (r.gh g hg).same e
  im := fun i fr h => let ⟨v, d, h1, h2, h3⟩ := r.im i fr h; ⟨v, d, h1, h2, h3.same e⟩
  ow := fun i c fr h => let ⟨p, d, h1, h2, h3, h4⟩ := r.ow i c fr h; ⟨p, d, h1, h2, h3, h4.map (fun o => e p o) fun _ _ q => q.same e⟩
  ar := r.ar

theorem R.owOf (r : R K f Δ ρ σ H) {a : Addr} (h : Ow Δ σ a) : (∃ o, H a = some o ∧ Mutb o) ∧ f.H0 a = none := by
  obtain ⟨i, c, fr, h1, h2⟩ := h
  obtain ⟨p, d, e1, _, e3, e4⟩ := r.ow i c fr h1
  rw [h2] at e1
  cases e1
  exact ⟨e4.mutb, e3⟩
theorem R.fresh (r : R K f Δ ρ σ H) (h : H p = none) : ¬ Ow Δ σ p ∧ p ∉ f.P ∧ f.H0 p = none := by
  refine ⟨fun z => ?_, fun z => ?_, ?_⟩
  · obtain ⟨⟨o, e, _⟩, _⟩ := r.owOf z
    rw [h] at e; cases e
  · obtain ⟨⟨o, e, _⟩, _⟩ := r.pin p z
    rw [h] at e; cases e
  · cases q : f.H0 p with
    | none => rfl
    | some o => rw [r.ext p o q] at h; cases h

/-- an update at a place that no datum reaches (an owned one's content, or a pinned one) -/
theorem R.updAt {o o' : HO} (r : R K f Δ ρ σ H) (hp : H p = some o) (m : Mutb o) (m' : Mutb o') (h0 : f.H0 p = none) (no : ¬ Ow Δ σ p) (hP : p ∈ f.P) : R K f Δ ρ σ (upd H p o') := by
  have key : ∀ {fr : Bool} {v : V} {d : Dt}, Rp K (FM f Δ σ true fr) H v d → Rp K (FM f Δ σ true fr) (upd H p o') v d := fun h =>
    h.updM hp m fun a fa z => (fa.1 rfl).2 (z ▸ hP)
  refine ⟨fun b u e => ?_, r.g0, r.lσ, r.lρ, r.inj, fun a ha => ⟨?_, (r.pin a ha).2⟩, fun g hg => (r.gh g hg).map fun _ _ x => key x, fun i fr h => ?_, fun i c fr h => ?_, r.ar⟩
  · have : b ≠ p := fun z => by subst z; rw [h0] at e; cases e
    rw [upd_ne this]
    exact r.ext b u e
  · by_cases z : a = p
    · subst z
      exact ⟨o', upd_same, m'⟩
    · rw [upd_ne z]
      exact (r.pin a ha).1
  · obtain ⟨v, d, h1, h2, h3⟩ := r.im i fr h
    exact ⟨v, d, h1, h2, key h3⟩
  · obtain ⟨q, d, h1, h2, h3, h4⟩ := r.ow i c fr h
    have nq : q ≠ p := fun z => no ⟨i, c, fr, h, z ▸ h1⟩
    exact ⟨q, d, h1, h2, h3, h4.map (fun u e => by rw [upd_ne nq]; exact e) fun _ _ x => key x⟩

/-- an owned object's content is replaced -/
theorem R.updOwn {o' : HO} {c : Ct} {fr : Bool} (r : R K f Δ ρ σ H) (hk : Δ[i]? = some (Kd.own c fr)) (hs : σ[i]? = some (some (V.ref p)))
    {fr' : Bool} (m' : Mutb o') {c' : Ct} (new : OwC K c' (FM f Δ σ true fr') (upd H p o') p d) (hc : isArg c' = true → isArg c = true := by intro h; first | exact h | cases h) : R K f (Δ.set i (.own c' fr')) (ρ.set i d) σ (upd H p o') := by
  obtain ⟨p', d', e1, e2, e3, e4⟩ := r.ow i c fr hk
  rw [hs] at e1
  cases e1
  obtain ⟨o, ho, mo⟩ := e4.mutb
  have hi : i < Δ.length := (List.getElem?_eq_some_iff.mp hk).1
  have owp : Ow Δ σ p := ⟨i, c, fr, hk, hs⟩
  have ow' : ∀ a, Ow (Δ.set i (.own c' fr')) σ a ↔ Ow Δ σ a := fun a => by
    constructor
    · rintro ⟨j, cj, fj, h1, h2⟩
      by_cases z : i = j
      · subst z
        rw [hs] at h2
        cases h2
        exact owp
      · rw [List.getElem?_set_ne z] at h1
        exact ⟨j, cj, fj, h1, h2⟩
    · rintro ⟨j, cj, fj, h1, h2⟩
      by_cases z : i = j
      · subst z
        exact ⟨i, c', fr', by rw [List.getElem?_set_self hi], h2⟩
      · exact ⟨j, cj, fj, by rw [List.getElem?_set_ne z]; exact h1, h2⟩
  have key : ∀ {fr : Bool} {v : V} {d : Dt}, Rp K (FM f Δ σ true fr) H v d → Rp K (FM f (Δ.set i (.own c' fr')) σ true fr) (upd H p o') v d := fun h =>
    (h.updM ho mo fun a fa z => (fa.1 rfl).1 (z ▸ owp)).weak fun a fa => ⟨fun _ => ⟨fun z => (fa.1 rfl).1 ((ow' a).mp z), (fa.1 rfl).2⟩, fa.2⟩
  have key2 : ∀ {fr : Bool} {v : V} {d : Dt}, Rp K (FM f Δ σ true fr) (upd H p o') v d → Rp K (FM f (Δ.set i (.own c' fr')) σ true fr) (upd H p o') v d := fun h =>
    h.weak fun a fa => ⟨fun _ => ⟨fun z => (fa.1 rfl).1 ((ow' a).mp z), (fa.1 rfl).2⟩, fa.2⟩
  refine ⟨fun b u e => ?_, r.g0, by rw [List.length_set]; exact r.lσ, by rw [List.length_set, List.length_set]; exact r.lρ, ?_, fun a ha => ?_, fun g hg => (r.gh g hg).map fun _ _ x => key x, fun j fj h => ?_, fun j cj fj h => ?_, fun j cj fj h ha => ?_⟩
  · have : b ≠ p := fun z => by subst z; rw [e3] at e; cases e
    rw [upd_ne this]
    exact r.ext b u e
  · intro j k cj fj ck fk q h1 h2 h3 h4
    have g : ∀ {j : Nat} {cj : Ct} {fj : Bool}, (Δ.set i (Kd.own c' fr'))[j]? = some (Kd.own cj fj) → ∃ (cj : Ct) (fj : Bool), Δ[j]? = some (Kd.own cj fj) := fun {j cj fj} h => by
      by_cases z : i = j
      · subst z; exact ⟨_, _, hk⟩
      · rw [List.getElem?_set_ne z] at h; exact ⟨_, _, h⟩
    obtain ⟨_, _, g1⟩ := g h1
    obtain ⟨_, _, g2⟩ := g h2
    exact r.inj j k _ _ _ _ q g1 g2 h3 h4
  · obtain ⟨⟨u, hu, mu⟩, no⟩ := r.pin a ha
    have na : a ≠ p := fun z => no (z ▸ owp)
    exact ⟨⟨u, by rw [upd_ne na]; exact hu, mu⟩, fun z => no ((ow' a).mp z)⟩
  · by_cases z : i = j
    · subst z
      rw [List.getElem?_set_self hi] at h
      cases h
    · rw [List.getElem?_set_ne z] at h
      obtain ⟨v, d, h1, h2, h3⟩ := r.im j fj h
      exact ⟨v, d, h1, by rw [List.getElem?_set_ne z]; exact h2, key h3⟩
  · by_cases z : i = j
    · subst z
      rw [List.getElem?_set_self hi] at h
      cases h
      exact ⟨p, d, hs, by rw [List.getElem?_set_self (by rw [r.lρ]; exact hi)], e3, new.map (fun o e => e) fun _ _ x => key2 x⟩
    · rw [List.getElem?_set_ne z] at h
      obtain ⟨q, d, h1, h2, h3, h4⟩ := r.ow j cj fj h
      have nq : q ≠ p := fun y => z (r.inj i j _ _ _ _ p hk h hs (y ▸ h1))
      exact ⟨q, d, h1, by rw [List.getElem?_set_ne z]; exact h2, h3, h4.map (fun u e => by rw [upd_ne nq]; exact e) fun _ _ x => key x⟩
  · by_cases z : i = j
    · subst z
      rw [List.getElem?_set_self hi] at h
      cases h
      exact r.ar i c fr hk (hc ha)
    · rw [List.getElem?_set_ne z] at h
      exact r.ar j cj fj h ha

/-- slot i gets a value; or is forgotten -/
theorem R.setIm {fr : Bool} (r : R K f Δ ρ σ H) (hi : i < Δ.length) (h : Rp K (FM f Δ σ true fr) H v d) : R K f (Δ.set i (.im fr)) (ρ.set i d) (σ.set i (some v)) H := by
  have ow' : ∀ a, Ow (Δ.set i (.im fr)) (σ.set i (some v)) a → Ow Δ σ a := fun a => by
    rintro ⟨j, cj, fj, h1, h2⟩
    by_cases z : i = j
    · subst z
      rw [List.getElem?_set_self hi] at h1
      cases h1
    · rw [List.getElem?_set_ne z] at h1 h2
      exact ⟨j, cj, fj, h1, h2⟩
  have key : ∀ {fr' : Bool} {v' : V} {d' : Dt}, Rp K (FM f Δ σ true fr') H v' d' → Rp K (FM f (Δ.set i (.im fr)) (σ.set i (some v)) true fr') H v' d' := fun h =>
    h.weak fun a fa => ⟨fun _ => ⟨fun z => (fa.1 rfl).1 (ow' a z), (fa.1 rfl).2⟩, fa.2⟩
  refine ⟨r.ext, r.g0, by rw [List.length_set, List.length_set]; exact r.lσ, by rw [List.length_set, List.length_set]; exact r.lρ, ?_, fun a ha => ⟨(r.pin a ha).1, fun z => (r.pin a ha).2 (ow' a z)⟩, fun g hg => (r.gh g hg).map fun _ _ x => key x, fun j fj h' => ?_, fun j cj fj h' => ?_, fun j cj fj h' ha => ?_⟩
  · intro j k cj fj ck fk q h1 h2 h3 h4
    have g : ∀ {j : Nat} {cj : Ct} {fj : Bool}, (Δ.set i (Kd.im fr))[j]? = some (Kd.own cj fj) → i ≠ j ∧ Δ[j]? = some (Kd.own cj fj) := fun {j cj fj} h => by
      by_cases z : i = j
      · subst z; rw [List.getElem?_set_self hi] at h; cases h
      · rw [List.getElem?_set_ne z] at h; exact ⟨z, h⟩
    obtain ⟨z1, g1⟩ := g h1
    obtain ⟨z2, g2⟩ := g h2
    rw [List.getElem?_set_ne z1] at h3
    rw [List.getElem?_set_ne z2] at h4
    exact r.inj j k _ _ _ _ q g1 g2 h3 h4
  · by_cases z : i = j
    · subst z
      rw [List.getElem?_set_self hi] at h'
      cases h'
      exact ⟨v, d, by rw [List.getElem?_set_self (by rw [r.lσ]; exact hi)], by rw [List.getElem?_set_self (by rw [r.lρ]; exact hi)], key h⟩
    · rw [List.getElem?_set_ne z] at h'
      obtain ⟨v', d', h1, h2, h3⟩ := r.im j fj h'
      exact ⟨v', d', by rw [List.getElem?_set_ne z]; exact h1, by rw [List.getElem?_set_ne z]; exact h2, key h3⟩
  · by_cases z : i = j
    · subst z
      rw [List.getElem?_set_self hi] at h'
      cases h'
    · rw [List.getElem?_set_ne z] at h'
      obtain ⟨q, d', h1, h2, h3, h4⟩ := r.ow j cj fj h'
      exact ⟨q, d', by rw [List.getElem?_set_ne z]; exact h1, by rw [List.getElem?_set_ne z]; exact h2, h3, h4.map (fun u e => e) fun _ _ x => key x⟩
  · by_cases z : i = j
    · subst z
      rw [List.getElem?_set_self hi] at h'
      cases h'
    · rw [List.getElem?_set_ne z] at h'
      obtain ⟨p, h1, h2⟩ := r.ar j cj fj h' ha
      exact ⟨p, h1, by rw [List.getElem?_set_ne z]; exact h2⟩

/-- slot i gets a new object of its own -/
theorem R.setOwn {c : Ct} {fr : Bool} (r0 : R K f Δ ρ σ H) (hi : i < Δ.length) (hp : H p = none) (e : Same H H') (h : OwC K c (fun a => FM f Δ σ true fr a ∧ a ≠ p) H' p d) (hc : isArg c = false := by rfl) :
    R K f (Δ.set i (.own c fr)) (ρ.set i d) (σ.set i (some (.ref p))) H' := by
  have r := r0.mono e
  obtain ⟨f1, f2, f3⟩ := r0.fresh hp
  have ow' : ∀ a, Ow (Δ.set i (.own c fr)) (σ.set i (some (.ref p))) a → Ow Δ σ a ∨ a = p := fun a => by
    rintro ⟨j, cj, fj, h1, h2⟩
    by_cases z : i = j
    · subst z
      rw [List.getElem?_set_self (by rw [r.lσ]; exact hi)] at h2
      cases h2
      exact .inr rfl
    · rw [List.getElem?_set_ne z] at h1 h2
      exact .inl ⟨j, cj, fj, h1, h2⟩
  have key : ∀ {fr' : Bool} {v' : V} {d' : Dt}, Rp K (FM f Δ σ true fr') H v' d' → Rp K (FM f (Δ.set i (.own c fr)) (σ.set i (some (.ref p))) true fr') H' v' d' := fun h =>
    h.mono e fun a fa na => ⟨fun _ => ⟨fun z => by
      rcases ow' a z with z | z
      · exact (fa.1 rfl).1 z
      · exact na (z ▸ hp), (fa.1 rfl).2⟩, fa.2⟩
  have keyN : ∀ {fr' : Bool} {v' : V} {d' : Dt}, Rp K (fun a => FM f Δ σ true fr' a ∧ a ≠ p) H' v' d' → Rp K (FM f (Δ.set i (.own c fr)) (σ.set i (some (.ref p))) true fr') H' v' d' := fun h =>
    h.weak fun a fa => ⟨fun _ => ⟨fun z => by
      rcases ow' a z with z | z
      · exact (fa.1.1 rfl).1 z
      · exact fa.2 z, (fa.1.1 rfl).2⟩, fa.1.2⟩
  refine ⟨r.ext, r.g0, by rw [List.length_set, List.length_set]; exact r.lσ, by rw [List.length_set, List.length_set]; exact r.lρ, ?_, fun a ha => ⟨(r.pin a ha).1, fun z => ?_⟩, fun g hg => (r0.gh g hg).map fun _ _ x => key x, fun j fj h' => ?_, fun j cj fj h' => ?_, fun j cj fj h' ha => ?_⟩
  · have g : ∀ {j : Nat} {cj : Ct} {fj : Bool} {q : Addr}, (Δ.set i (Kd.own c fr))[j]? = some (Kd.own cj fj) → (σ.set i (some (V.ref p)))[j]? = some (some (V.ref q)) → (i = j ∧ q = p) ∨ (i ≠ j ∧ Δ[j]? = some (Kd.own cj fj) ∧ σ[j]? = some (some (V.ref q)) ∧ q ≠ p) := fun {j cj fj q} h h2 => by
      by_cases z : i = j
      · subst z
        rw [List.getElem?_set_self (by rw [r.lσ]; exact hi)] at h2
        cases h2
        exact .inl ⟨rfl, rfl⟩
      · rw [List.getElem?_set_ne z] at h h2
        exact .inr ⟨z, h, h2, fun y => f1 ⟨j, cj, fj, h, y ▸ h2⟩⟩
    intro j k cj fj ck fk q h1 h2 h3 h4
    rcases g h1 h3 with ⟨a1, b1⟩ | ⟨a1, b1, c1, d1⟩
    · rcases g h2 h4 with ⟨a2, b2⟩ | ⟨a2, b2, c2, d2⟩
      · exact a1 ▸ a2
      · exact (d2 b1).elim
    · rcases g h2 h4 with ⟨a2, b2⟩ | ⟨a2, b2, c2, d2⟩
      · exact (d1 b2).elim
      · exact r.inj j k _ _ _ _ q b1 b2 c1 c2
  · rcases ow' a z with z | z
    · exact (r0.pin a ha).2 z
    · exact f2 (z ▸ ha)
  · by_cases z : i = j
    · subst z
      rw [List.getElem?_set_self hi] at h'
      cases h'
    · rw [List.getElem?_set_ne z] at h'
      obtain ⟨v', d', h1, h2, h3⟩ := r0.im j fj h'
      exact ⟨v', d', by rw [List.getElem?_set_ne z]; exact h1, by rw [List.getElem?_set_ne z]; exact h2, key h3⟩
  · by_cases z : i = j
    · subst z
      rw [List.getElem?_set_self hi] at h'
      cases h'
      exact ⟨p, d, by rw [List.getElem?_set_self (by rw [r.lσ]; exact hi)], by rw [List.getElem?_set_self (by rw [r.lρ]; exact hi)], f3, h.map (fun o e => e) fun _ _ x => keyN x⟩
    · rw [List.getElem?_set_ne z] at h'
      obtain ⟨q, d', h1, h2, h3, h4⟩ := r0.ow j cj fj h'
      exact ⟨q, d', by rw [List.getElem?_set_ne z]; exact h1, by rw [List.getElem?_set_ne z]; exact h2, h3, h4.map (fun u x => e _ _ x) fun _ _ x => key x⟩
  · by_cases z : i = j
    · subst z
      rw [List.getElem?_set_self hi] at h'
      cases h'
      rw [hc] at ha
      cases ha
    · rw [List.getElem?_set_ne z] at h'
      obtain ⟨p, h1, h2⟩ := r0.ar j cj fj h' ha
      exact ⟨p, h1, by rw [List.getElem?_set_ne z]; exact h2⟩
end
end Sim
end T_SimA

section T_SimB
set_option Elab.async false
set_option linter.all false
set_option maxRecDepth 100000
/-! SimB: expressions. -/
namespace Sim
open PySem PySem.Spec L2
open PyProof.Rows hiding St

abbrev Wt := Exn → L2.St → Hp → Prop
abbrev Gd := List Dt → O Dt
inductive Rk where
  | v (av fr : Bool) | o (fr : Bool) | new (c : Ct) (fr : Bool)

def PoE (K : PySem.W.Frag) (W : Wt) (f : Fm) (Δ : List Kd) (σ : L2.St) (H : Hp) (k : Rk) (o : O Dt) (Q : VK) : Prop := match o with
  | .bad => False
  | .ex e => ∀ H', Same H H' → W e σ H'
  | .ok d => match k with
    | .v av fr => ∀ v H', Same H H' → Rp K (FM f Δ σ av fr) H' v d → Q v H'
    | .o fr => ∀ p H' vs ds, d = .list ds → Same H H' → H' p = some (.lst vs) → f.G p → RpA K (FM f Δ σ true fr) H' vs ds → Q (.ref p) H'
    | .new c fr => ∀ p H', H p = none → Same H H' → OwC K c (fun a => FM f Δ σ true fr a ∧ a ≠ p) H' p d → Q (.ref p) H'
def SE (K : PySem.W.Frag) (W : Wt) (Δ : List Kd) (te : TE) (k : Rk) (g : Gd) : Prop := ∀ f ρ σ H Q, R K f Δ ρ σ H → PoE K W f Δ σ H k (g ρ) Q → te σ H Q
def PoT (W : Wt) (σ : L2.St) (H : Hp) (o : O Bool) (Q : Bool → Hp → Prop) : Prop := match o with
  | .bad => False
  | .ex e => ∀ H', Same H H' → W e σ H'
  | .ok b => ∀ H', Same H H' → Q b H'
def ST (K : PySem.W.Frag) (W : Wt) (Δ : List Kd) (tt : TT) (g : List Dt → O Bool) : Prop := ∀ f ρ σ H Q, R K f Δ ρ σ H → PoT W σ H (g ρ) Q → tt σ H Q
def PoA (K : PySem.W.Frag) (W : Wt) (f : Fm) (Δ : List Kd) (σ : L2.St) (H : Hp) (av fr : Bool) (o : O (List Dt)) (Q : List V → Hp → Prop) : Prop := match o with
  | .bad => False
  | .ex e => ∀ H', Same H H' → W e σ H'
  | .ok ds => ∀ vs H', Same H H' → RpA K (FM f Δ σ av fr) H' vs ds → Q vs H'
def SA (K : PySem.W.Frag) (W : Wt) (Δ : List Kd) (ta : TA) (av fr : Bool) (g : List Dt → O (List Dt)) : Prop := ∀ f ρ σ H Q, R K f Δ ρ σ H → PoA K W f Δ σ H av fr (g ρ) Q → ta σ H Q

/-! ### the closures -/
def gVar (i : Nat) : Gd := fun ρ => match ρ[i]? with
  | some d => .ok d
  | none => .bad
def gC (d : Dt) : Gd := fun _ => .ok d
def gOp (h : Dt → Dt → O Dt) (a b : Gd) : Gd := fun ρ => bnd (a ρ) fun x => bnd (b ρ) fun y => h x y
def gUn (h : Dt → O Dt) (a : Gd) : Gd := fun ρ => bnd (a ρ) h
def gNil : List Dt → O (List Dt) := fun _ => .ok []
def gCons (a : Gd) (b : List Dt → O (List Dt)) : List Dt → O (List Dt) := fun ρ => bnd (a ρ) fun x => bnd (b ρ) fun xs => .ok (x :: xs)
def gTup (a : List Dt → O (List Dt)) : Gd := fun ρ => bnd (a ρ) fun xs => if xs.length ≤ 100000 then .ok (.tuple xs) else .bad
def gLst (a : List Dt → O (List Dt)) : Gd := fun ρ => bnd (a ρ) fun xs => if xs.length ≤ 100000 then .ok (.list xs) else .bad
def gPur (a : Gd) : Gd := fun ρ => bnd (a ρ) fun d => if pure1 d then .ok d else .bad
def pureIn : Dt → Bool
  | .list xs => pureA xs
  | d => pure1 d
def gPurN (a : Gd) : Gd := fun ρ => bnd (a ρ) fun d => if pureIn d then .ok d else .bad
def gIf (t : List Dt → O Bool) (a b : Gd) : Gd := fun ρ => bnd (t ρ) fun c => if c then a ρ else b ρ
def asB : Dt → O Bool
  | .bool b => .ok b
  | _ => .bad
def gTest (a : Gd) : List Dt → O Bool := fun ρ => bnd (a ρ) asB
def gNot (t : List Dt → O Bool) : List Dt → O Bool := fun ρ => bnd (t ρ) fun b => .ok (!b)
def gAnd (t u : List Dt → O Bool) : List Dt → O Bool := fun ρ => bnd (t ρ) fun b => if b then u ρ else .ok false
def gOr (t u : List Dt → O Bool) : List Dt → O Bool := fun ρ => bnd (t ρ) fun b => if b then .ok true else u ρ
def gAndV (a b : Gd) : Gd := fun ρ => bnd (a ρ) fun x => bnd (asB x) fun c => if c then b ρ else .ok (.bool false)
def gOrV (a b : Gd) : Gd := fun ρ => bnd (a ρ) fun x => bnd (asB x) fun c => if c then .ok (.bool true) else b ρ
def gNotV (a : Gd) : Gd := fun ρ => bnd (a ρ) fun x => bnd (asB x) fun c => .ok (.bool (!c))
def gCB (h : List Dt → O Dt) (a : List Dt → O (List Dt)) : Gd := fun ρ => bnd (a ρ) h
/-- scalars -/
def scl : Dt → Bool
  | .none => true
  | .bool _ => true
  | .int _ => true
  | .str _ => true
  | _ => false

section
variable {K : PySem.W.Frag} {W : Wt} {Δ : List Kd} {ta tb te : TE} {tt tu : TT} {tA tB' : TA} {ga gb g : Gd} {gt gu : List Dt → O Bool} {gA : List Dt → O (List Dt)} {k k1 k2 : Rk} {av fr av' fr' : Bool}

theorem Rp.scl_any {F F' : Addr → Prop} {H H' : Hp} {v : V} {d : Dt} (h : Rp K F H v d) (s : scl d = true) : Rp K F' H' v d := by
  cases h with
  | non => exact .non
  | bl b => exact .bl b
  | int i => exact .int i
  | str x => exact .str x
  | lst => cases s
  | fz => cases s
  | tup => cases s

/-! ### names and constants -/
theorem se_var {i : Nat} (hk : Δ[i]? = some (.im fr)) : SE K W Δ (tVar i) (.v true fr) (gVar i) := fun f ρ σ H Q r q => by
  obtain ⟨v, d, h1, h2, h3⟩ := r.im i fr hk
  unfold gVar at q
  rw [h2] at q
  exact ⟨v, h1, q v H (Same.refl H) h3⟩
theorem se_own {i : Nat} (hk : Δ[i]? = some (.own .l fr)) : SE K W Δ (tVar i) (.o fr) (gVar i) := fun f ρ σ H Q r q => by
  obtain ⟨p, d, h1, h2, h3, vs, ds, e, h4, h5⟩ := r.ow i .l fr hk
  subst e
  unfold gVar at q
  rw [h2] at q
  exact ⟨_, h1, q p H vs ds rfl (Same.refl H) h4 (r.g0 p h3) h5⟩
theorem se_c {v : V} {d : Dt} (h : Rp K (fun _ => False) (fun _ => none) v d) (s : scl d = true) : SE K W Δ (tC v) (.v true true) (gC d) := fun f ρ σ H Q r q =>
  q v H (Same.refl H) (h.scl_any s)
theorem se_int {i : Int} : SE K W Δ (tC (.int i)) (.v true true) (gC (.int i)) := se_c (.int i) rfl
theorem se_str {x : Str} : SE K W Δ (tC (.str x)) (.v true true) (gC (.str x)) := se_c (.str x) rfl
theorem se_bl {b : Bool} : SE K W Δ (tC (.bl b)) (.v true true) (gC (.bool b)) := se_c (.bl b) rfl
theorem se_non : SE K W Δ (tC .non) (.v true true) (gC .none) := se_c .non rfl

/-! ### weakening -/
theorem Rp.fm {f : Fm} {σ : L2.St} {H : Hp} {v : V} {d : Dt} (h1 : av' = true → av = true) (h2 : fr' = true → fr = true) (h : Rp K (FM f Δ σ av fr) H v d) : Rp K (FM f Δ σ av' fr') H v d := h.weak fun _ x => x.weak h1 h2
theorem SE.wk (h : SE K W Δ te (.v av fr) g) (h1 : av' = true → av = true := by decide) (h2 : fr' = true → fr = true := by decide) : SE K W Δ te (.v av' fr') g := fun f ρ σ H Q r q =>
  h f ρ σ H Q r <| by
    cases e : g ρ with
    | bad => rw [e] at q; exact q
    | ex z => rw [e] at q; exact q
    | ok d => rw [e] at q; exact fun v H' s x => q v H' s (x.fm h1 h2)
theorem SE.ov (h : SE K W Δ te (.o fr) g) : SE K W Δ te (.v false fr) g := fun f ρ σ H Q r q =>
  h f ρ σ H Q r <| by
    cases e : g ρ with
    | bad => rw [e] at q; exact q
    | ex z => rw [e] at q; exact q
    | ok d =>
      rw [e] at q
      intro p H' vs ds ed s hp gp x
      subst ed
      exact q _ H' s (.lst hp ⟨(nomatch ·), fun _ => gp⟩ (x.weak fun _ y => y.weak (fun _ => rfl) id))
theorem SE.nv (h : SE K W Δ te (.new .l fr) g) : SE K W Δ te (.v true fr) g := fun f ρ σ H Q r q =>
  h f ρ σ H Q r <| by
    cases e : g ρ with
    | bad => rw [e] at q; exact q
    | ex z => rw [e] at q; exact q
    | ok d =>
      rw [e] at q
      intro p H' np s x
      obtain ⟨vs, ds, ed, hp, x⟩ := x
      subst ed
      obtain ⟨f1, f2, f3⟩ := r.fresh np
      exact q _ H' s (.lst hp ⟨fun _ => ⟨f1, f2⟩, fun _ => r.g0 p f3⟩ (x.weak fun _ y => y.1))
theorem SE.no (h : SE K W Δ te (.new .l fr) g) : SE K W Δ te (.o fr) g := fun f ρ σ H Q r q =>
  h f ρ σ H Q r <| by
    cases e : g ρ with
    | bad => rw [e] at q; exact q
    | ex z => rw [e] at q; exact q
    | ok d =>
      rw [e] at q
      intro p H' np s x
      obtain ⟨vs, ds, ed, hp, x⟩ := x
      subst ed
      obtain ⟨f1, f2, f3⟩ := r.fresh np
      exact q _ H' vs ds rfl s hp (r.g0 p f3) (x.weak fun _ y => y.1)
theorem SE.pur (h : SE K W Δ te (.v av fr) g) : SE K W Δ te (.v true true) (gPur g) := fun f ρ σ H Q r q =>
  h f ρ σ H Q r <| by
    unfold gPur at q
    cases e : g ρ with
    | bad => rw [e] at q; exact q
    | ex z => rw [e] at q; exact q
    | ok d =>
      rw [e, bnd_ok] at q
      intro v H' s x
      by_cases p : pure1 d = true
      · rw [if_pos p] at q
        exact q v H' s (x.pure p)
      · rw [if_neg p] at q
        exact q.elim
theorem pureIn_list {ds : List Dt} : pureIn (.list ds) = pureA ds := rfl
theorem SE.purN (h : SE K W Δ te (.new .l fr) g) : SE K W Δ te (.new .l true) (gPurN g) := fun f ρ σ H Q r q =>
  h f ρ σ H Q r <| by
    unfold gPurN at q
    cases e : g ρ with
    | bad => rw [e] at q; exact q
    | ex z => rw [e] at q; exact q
    | ok d =>
      rw [e, bnd_ok] at q
      intro p H' np s x
      obtain ⟨vs, ds, ed, hp, x⟩ := x
      subst ed
      rw [pureIn_list] at q
      by_cases pp : pureA ds = true
      · rw [if_pos pp] at q
        exact q p H' np s ⟨vs, ds, rfl, hp, x.pure pp⟩
      · rw [if_neg pp] at q
        exact q.elim
theorem SE.purO (h : SE K W Δ te (.o fr) g) : SE K W Δ te (.o true) (gPurN g) := fun f ρ σ H Q r q =>
  h f ρ σ H Q r <| by
    unfold gPurN at q
    cases e : g ρ with
    | bad => rw [e] at q; exact q
    | ex z => rw [e] at q; exact q
    | ok d =>
      rw [e, bnd_ok] at q
      intro p H' vs ds ed s hp gp x
      subst ed
      rw [pureIn_list] at q
      by_cases pp : pureA ds = true
      · rw [if_pos pp] at q
        exact q p H' vs ds rfl s hp gp (x.pure pp)
      · rw [if_neg pp] at q
        exact q.elim

/-! ### operators on two, on one: the answer a scalar -/
def OSc (K : PySem.W.Frag) (r : R2) (h : Dt → Dt → O Dt) : Prop := ∀ H x y d e Q, Rp K (fun _ => True) H x d → Rp K (fun _ => True) H y e →
  (match h d e with | .ok z => scl z = true ∧ (∀ v, Rp K (fun _ => False) (fun _ => none) v z → Q v H) | _ => False) → r x y H Q
def USc (K : PySem.W.Frag) (r : V → Hp → VK → Prop) (h : Dt → O Dt) : Prop := ∀ H x d Q, Rp K (fun _ => True) H x d →
  (match h d with | .ok z => scl z = true ∧ (∀ v, Rp K (fun _ => False) (fun _ => none) v z → Q v H) | _ => False) → r x H Q
def CSc (K : PySem.W.Frag) (r : List V → Hp → VK → Prop) (h : List Dt → O Dt) : Prop := ∀ H xs ds Q, RpA K (fun _ => True) H xs ds →
  (match h ds with | .ok z => scl z = true ∧ (∀ v, Rp K (fun _ => False) (fun _ => none) v z → Q v H) | _ => False) → r xs H Q
/-- h gives scalars or nothing -/
def Scl2 (h : Dt → Dt → O Dt) : Prop := ∀ d e, (∃ z, h d e = .ok z ∧ scl z = true) ∨ h d e = .bad
def Scl1 (h : Dt → O Dt) : Prop := ∀ d, (∃ z, h d = .ok z ∧ scl z = true) ∨ h d = .bad
def SclA (h : List Dt → O Dt) : Prop := ∀ d, (∃ z, h d = .ok z ∧ scl z = true) ∨ h d = .bad

theorem se_op {r : R2} {h : Dt → Dt → O Dt} (hs : Scl2 h) (ho : OSc K r h) (ha : SE K W Δ ta (.v av fr) ga) (hb : SE K W Δ tb (.v av' fr') gb) : SE K W Δ (tOp r ta tb) (.v true true) (gOp h ga gb) := fun f ρ σ H Q R q => by
  refine ha f ρ σ H _ R ?_
  unfold gOp at q
  cases e1 : ga ρ with
  | bad => rw [e1] at q; exact q
  | ex z => rw [e1] at q; exact q
  | ok d =>
    rw [e1, bnd_ok] at q
    intro v H1 s1 x1
    refine hb f ρ σ H1 _ (R.mono s1) ?_
    cases e2 : gb ρ with
    | bad => rw [e2] at q; exact q
    | ex z => rw [e2] at q; exact fun H' s => q H' (s1.trans s)
    | ok d2 =>
      rw [e2, bnd_ok] at q
      intro v2 H2 s2 x2
      refine ho H2 v v2 d d2 Q ((x1.same s2).weak fun _ _ => trivial) (x2.weak fun _ _ => trivial) ?_
      rcases hs d d2 with ⟨z, ez, sz⟩ | ez
      · rw [ez] at q ⊢
        exact ⟨sz, fun w x => q w H2 (s1.trans s2) (x.scl_any sz)⟩
      · rw [ez] at q
        exact q.elim
theorem se_un {r : V → Hp → VK → Prop} {h : Dt → O Dt} (hs : Scl1 h) (ho : USc K r h) (ha : SE K W Δ ta (.v av fr) ga) : SE K W Δ (tUn r ta) (.v true true) (gUn h ga) := fun f ρ σ H Q R q => by
  refine ha f ρ σ H _ R ?_
  unfold gUn at q
  cases e1 : ga ρ with
  | bad => rw [e1] at q; exact q
  | ex z => rw [e1] at q; exact q
  | ok d =>
    rw [e1, bnd_ok] at q
    intro v H1 s1 x1
    refine ho H1 v d Q (x1.weak fun _ _ => trivial) ?_
    rcases hs d with ⟨z, ez, sz⟩ | ez
    · rw [ez] at q ⊢
      exact ⟨sz, fun w x => q w H1 s1 (x.scl_any sz)⟩
    · rw [ez] at q
      exact q.elim
theorem se_cb {r : List V → Hp → VK → Prop} {h : List Dt → O Dt} (hs : SclA h) (ho : CSc K r h) (ha : SA K W Δ tA av fr gA) : SE K W Δ (tCB r tA) (.v true true) (gCB h gA) := fun f ρ σ H Q R q => by
  refine ha f ρ σ H _ R ?_
  unfold gCB at q
  cases e1 : gA ρ with
  | bad => rw [e1] at q; exact q
  | ex z => rw [e1] at q; exact q
  | ok d =>
    rw [e1, bnd_ok] at q
    intro v H1 s1 x1
    refine ho H1 v d Q (x1.weak fun _ _ => trivial) ?_
    rcases hs d with ⟨z, ez, sz⟩ | ez
    · rw [ez] at q ⊢
      exact ⟨sz, fun w x => q w H1 s1 (x.scl_any sz)⟩
    · rw [ez] at q
      exact q.elim

/-! ### argument lists, tuples, lists -/
theorem sa_nil : SA K W Δ tNil true true gNil := fun f ρ σ H Q R q => q [] H (Same.refl H) .nil
theorem sa_cons (ha : SE K W Δ ta (.v av fr) ga) (hr : SA K W Δ tA av' fr' gA) : SA K W Δ (tCons ta tA) (av && av') (fr && fr') (gCons ga gA) := fun f ρ σ H Q R q => by
  refine ha f ρ σ H _ R ?_
  unfold gCons at q
  cases e1 : ga ρ with
  | bad => rw [e1] at q; exact q
  | ex z => rw [e1] at q; exact q
  | ok d =>
    rw [e1, bnd_ok] at q
    intro v H1 s1 x1
    refine hr f ρ σ H1 _ (R.mono s1) ?_
    cases e2 : gA ρ with
    | bad => rw [e2] at q; exact q
    | ex z => rw [e2] at q; exact fun H' s => q H' (s1.trans s)
    | ok ds =>
      rw [e2, bnd_ok] at q
      intro vs H2 s2 x2
      exact q (v :: vs) H2 (s1.trans s2) (.cons ((x1.same s2).fm (fun h => (Bool.and_eq_true_iff.mp h).1) fun h => (Bool.and_eq_true_iff.mp h).1)
        (x2.weak fun _ y => y.weak (fun h => (Bool.and_eq_true_iff.mp h).2) fun h => (Bool.and_eq_true_iff.mp h).2))
theorem SA.wk (h : SA K W Δ tA av fr gA) (h1 : av' = true → av = true := by decide) (h2 : fr' = true → fr = true := by decide) : SA K W Δ tA av' fr' gA := fun f ρ σ H Q R q =>
  h f ρ σ H Q R <| by
    cases e : gA ρ with
    | bad => rw [e] at q; exact q
    | ex z => rw [e] at q; exact q
    | ok d => rw [e] at q; exact fun v H' s x => q v H' s (x.weak fun _ y => y.weak h1 h2)
theorem sz_le {n : Nat} (h : n ≤ 100000) : n ≤ sizeLine := Nat.le_trans h (by decide)
theorem same_upd {H : Hp} {p : Addr} {o : HO} (h : H p = none) : Same H (upd H p o) := fun b x e => by
  rw [upd_ne (ne_of_none e h)]
  exact e
theorem se_tup (ha : SA K W Δ tA av fr gA) : SE K W Δ (tTup tA) (.v av fr) (gTup gA) := fun f ρ σ H Q R q => by
  refine ha f ρ σ H _ R ?_
  unfold gTup at q
  cases e1 : gA ρ with
  | bad => rw [e1] at q; exact q
  | ex z => rw [e1] at q; exact q
  | ok ds =>
    rw [e1, bnd_ok] at q
    intro vs H1 s1 x1
    by_cases l : ds.length ≤ 100000
    · rw [if_pos l] at q
      refine ⟨by rw [x1.length]; exact sz_le l, fun p np => ?_⟩
      exact q _ _ (s1.trans (same_upd np)) (.tup (.inl (.inl upd_same)) (x1.same (same_upd np)))
    · rw [if_neg l] at q
      exact q.elim
theorem se_lst (ha : SA K W Δ tA true fr gA) : SE K W Δ (tLst tA) (.new .l fr) (gLst gA) := fun f ρ σ H Q R q => by
  refine ha f ρ σ H _ R ?_
  unfold gLst at q
  cases e1 : gA ρ with
  | bad => rw [e1] at q; exact q
  | ex z => rw [e1] at q; exact q
  | ok ds =>
    rw [e1, bnd_ok] at q
    intro vs H1 s1 x1
    by_cases l : ds.length ≤ 100000
    · rw [if_pos l] at q
      refine ⟨by rw [x1.length]; exact sz_le l, fun p np => ?_⟩
      refine q p _ (s1.free np) (s1.trans (same_upd np)) ⟨vs, ds, rfl, upd_same, x1.mono (same_upd np) fun a y z => ⟨y, fun e => z (e ▸ np)⟩⟩
    · rw [if_neg l] at q
      exact q.elim
/-- a list display of anything, only looked at -/
theorem se_lstv (ha : SA K W Δ tA av fr gA) : SE K W Δ (tLst tA) (.v av fr) (gLst gA) := fun f ρ σ H Q R q => by
  refine ha f ρ σ H _ R ?_
  unfold gLst at q
  cases e1 : gA ρ with
  | bad => rw [e1] at q; exact q
  | ex z => rw [e1] at q; exact q
  | ok ds =>
    rw [e1, bnd_ok] at q
    intro vs H1 s1 x1
    by_cases l : ds.length ≤ 100000
    · rw [if_pos l] at q
      refine ⟨by rw [x1.length]; exact sz_le l, fun p np => ?_⟩
      obtain ⟨f1, f2, f3⟩ := R.fresh (s1.free np)
      exact q _ _ (s1.trans (same_upd np)) (.lst upd_same ⟨fun _ => ⟨f1, f2⟩, fun _ => R.g0 p f3⟩ (x1.same (same_upd np)))
    · rw [if_neg l] at q
      exact q.elim

/-! ### tests -/
theorem st_test (ha : SE K W Δ te (.v av fr) g) : ST K W Δ (tTest te) (gTest g) := fun f ρ σ H Q R q => by
  refine ha f ρ σ H _ R ?_
  unfold gTest at q
  cases e1 : g ρ with
  | bad => rw [e1] at q; exact q
  | ex z => rw [e1] at q; exact q
  | ok d =>
    rw [e1, bnd_ok] at q
    intro v H1 s1 x1
    cases x1 with
    | bl b => exact ⟨b, rfl, q H1 s1⟩
    | non => exact q.elim
    | int => exact q.elim
    | str => exact q.elim
    | lst => exact q.elim
    | fz => exact q.elim
    | tup => exact q.elim
theorem st_B (ha : SE K W Δ te (.v av fr) g) : ST K W Δ (tB te) (gTest g) := st_test ha
theorem st_not (h : ST K W Δ tt gt) : ST K W Δ (tNot tt) (gNot gt) := fun f ρ σ H Q R q => by
  refine h f ρ σ H _ R ?_
  unfold gNot at q
  cases e1 : gt ρ with
  | bad => rw [e1] at q; exact q
  | ex z => rw [e1] at q; exact q
  | ok d => rw [e1, bnd_ok] at q; exact q
theorem st_and (h : ST K W Δ tt gt) (h2 : ST K W Δ tu gu) : ST K W Δ (tAnd tt tu) (gAnd gt gu) := fun f ρ σ H Q R q => by
  refine h f ρ σ H _ R ?_
  unfold gAnd at q
  cases e1 : gt ρ with
  | bad => rw [e1] at q; exact q
  | ex z => rw [e1] at q; exact q
  | ok b =>
    rw [e1, bnd_ok] at q
    intro H1 s1
    cases b with
    | false => exact q H1 s1
    | true =>
      refine h2 f ρ σ H1 _ (R.mono s1) ?_
      have q : PoT W σ H (gu ρ) Q := q
      cases e2 : gu ρ with
      | bad => rw [e2] at q; exact q
      | ex z => rw [e2] at q; exact fun H' s => q H' (s1.trans s)
      | ok b => rw [e2] at q; exact fun H' s => q H' (s1.trans s)
theorem st_or (h : ST K W Δ tt gt) (h2 : ST K W Δ tu gu) : ST K W Δ (tOr tt tu) (gOr gt gu) := fun f ρ σ H Q R q => by
  refine h f ρ σ H _ R ?_
  unfold gOr at q
  cases e1 : gt ρ with
  | bad => rw [e1] at q; exact q
  | ex z => rw [e1] at q; exact q
  | ok b =>
    rw [e1, bnd_ok] at q
    intro H1 s1
    cases b with
    | true => exact q H1 s1
    | false =>
      refine h2 f ρ σ H1 _ (R.mono s1) ?_
      have q : PoT W σ H (gu ρ) Q := q
      cases e2 : gu ρ with
      | bad => rw [e2] at q; exact q
      | ex z => rw [e2] at q; exact fun H' s => q H' (s1.trans s)
      | ok b => rw [e2] at q; exact fun H' s => q H' (s1.trans s)
theorem PoE.mono {f : Fm} {σ : L2.St} {H H' : Hp} {o : O Dt} {Q : VK} (s : Same H H') (h : PoE K W f Δ σ H k o Q) : PoE K W f Δ σ H' k o Q := by
  cases o with
  | bad => exact h
  | ex z => exact fun H2 s2 => h H2 (s.trans s2)
  | ok d =>
    cases k with
    | v av fr => exact fun v H2 s2 => h v H2 (s.trans s2)
    | o fr => exact fun p H2 vs ds e s2 => h p H2 vs ds e (s.trans s2)
    | new c fr => exact fun p H2 np s2 => h p H2 (s.free np) (s.trans s2)
theorem se_if (h : ST K W Δ tt gt) (ha : SE K W Δ ta k ga) (hb : SE K W Δ tb k gb) : SE K W Δ (tIf tt ta tb) k (gIf gt ga gb) := fun f ρ σ H Q R q => by
  refine h f ρ σ H _ R ?_
  unfold gIf at q
  cases e1 : gt ρ with
  | bad => rw [e1] at q; exact q
  | ex z => rw [e1] at q; exact q
  | ok b =>
    rw [e1, bnd_ok] at q
    intro H1 s1
    cases b with
    | true => exact ha f ρ σ H1 Q (R.mono s1) (PoE.mono s1 q)
    | false => exact hb f ρ σ H1 Q (R.mono s1) (PoE.mono s1 q)
theorem se_andV (ha : SE K W Δ ta (.v av fr) ga) (hb : SE K W Δ tb (.v true true) gb) : SE K W Δ (tAndV ta tb) (.v true true) (gAndV ga gb) := fun f ρ σ H Q R q => by
  refine ha f ρ σ H _ R ?_
  unfold gAndV at q
  cases e1 : ga ρ with
  | bad => rw [e1] at q; exact q
  | ex z => rw [e1] at q; exact q
  | ok d =>
    rw [e1, bnd_ok] at q
    intro v H1 s1 x1
    cases x1 with
    | bl b =>
      refine ⟨b, rfl, ?_⟩
      cases b with
      | true => exact hb f ρ σ H1 Q (R.mono s1) (PoE.mono s1 q)
      | false => exact q _ H1 s1 (.bl false)
    | non => exact q.elim
    | int => exact q.elim
    | str => exact q.elim
    | lst => exact q.elim
    | fz => exact q.elim
    | tup => exact q.elim
theorem se_orV (ha : SE K W Δ ta (.v av fr) ga) (hb : SE K W Δ tb (.v true true) gb) : SE K W Δ (tOrV ta tb) (.v true true) (gOrV ga gb) := fun f ρ σ H Q R q => by
  refine ha f ρ σ H _ R ?_
  unfold gOrV at q
  cases e1 : ga ρ with
  | bad => rw [e1] at q; exact q
  | ex z => rw [e1] at q; exact q
  | ok d =>
    rw [e1, bnd_ok] at q
    intro v H1 s1 x1
    cases x1 with
    | bl b =>
      refine ⟨b, rfl, ?_⟩
      cases b with
      | true => exact q _ H1 s1 (.bl true)
      | false => exact hb f ρ σ H1 Q (R.mono s1) (PoE.mono s1 q)
    | non => exact q.elim
    | int => exact q.elim
    | str => exact q.elim
    | lst => exact q.elim
    | fz => exact q.elim
    | tup => exact q.elim
theorem se_notV (ha : SE K W Δ ta (.v av fr) ga) : SE K W Δ (tNotV ta) (.v true true) (gNotV ga) := fun f ρ σ H Q R q => by
  refine ha f ρ σ H _ R ?_
  unfold gNotV at q
  cases e1 : ga ρ with
  | bad => rw [e1] at q; exact q
  | ex z => rw [e1] at q; exact q
  | ok d =>
    rw [e1, bnd_ok] at q
    intro v H1 s1 x1
    cases x1 with
    | bl b => exact ⟨b, rfl, q _ H1 s1 (.bl _)⟩
    | non => exact q.elim
    | int => exact q.elim
    | str => exact q.elim
    | lst => exact q.elim
    | fz => exact q.elim
    | tup => exact q.elim
end
end Sim
end T_SimB

section T_SimC
set_option Elab.async false
set_option linter.all false
set_option maxRecDepth 100000
/-! SimC: the rules by which an expression of the text gets its closure. -/
namespace Sim
open PySem PySem.Spec L2
open PyProof.Rows hiding St

structure PD (X : Cx) (K : PySem.W.Frag) (W : Wt) (Δ : List Kd) (e : Expr) (te : TE) (k : Rk) (g : Gd) : Prop where
  pe : PE X e te
  hK : X.K = K
  se : SE K W Δ te k g
structure TD (X : Cx) (K : PySem.W.Frag) (W : Wt) (Δ : List Kd) (e : Expr) (tt : TT) (g : List Dt → O Bool) : Prop where
  pt : PT X e tt
  hK : X.K = K
  st : ST K W Δ tt g
structure WD (X : Cx) (K : PySem.W.Frag) (W : Wt) (Δ : List Kd) (e : Expr) (tt : TT) (g : List Dt → O Bool) : Prop where
  pw : PW X e tt
  hK : X.K = K
  st : ST K W Δ tt g
structure AD (X : Cx) (K : PySem.W.Frag) (W : Wt) (Δ : List Kd) (es : List Expr) (ta : TA) (av fr : Bool) (g : List Dt → O (List Dt)) : Prop where
  pa : PA X es ta
  hK : X.K = K
  sa : SA K W Δ ta av fr g

/-! ### the closures of operators -/
def hI0 (g : Int → Int → Int) : Dt → Dt → O Dt := fun d e => match d, e with
  | .int i, .int j => .ok (.int (g i j))
  | _, _ => .bad
def hI (C : Int → Int → Bool) (g : Int → Int → Int) : Dt → Dt → O Dt := fun d e => match d, e with
  | .int i, .int j => if C i j then .ok (.int (g i j)) else .bad
  | _, _ => .bad
def hB0 (p : Int → Int → Bool) : Dt → Dt → O Dt := fun d e => match d, e with
  | .int i, .int j => .ok (.bool (p i j))
  | _, _ => .bad
def hU (g : Int → Int) : Dt → O Dt := fun d => match d with
  | .int i => .ok (.int (g i))
  | _ => .bad
def hAdd := hI0 fun i j => i + j
def hSub := hI0 fun i j => i - j
def cMul (i j : Int) : Bool := decide (i.natAbs < 2 ^ 64) || decide (j.natAbs < 2 ^ 64)
def hMul := hI cMul fun i j => i * j
def cDiv (_ j : Int) : Bool := decide (0 < j) && decide (j.natAbs < 2 ^ 400)
def hDiv := hI cDiv fun i j => i / j
def cMod (_ j : Int) : Bool := decide (0 < j)
def hMod := hI cMod fun i j => i % j
def cPow (i j : Int) : Bool := decide (0 ≤ j) && decide (j ≤ 1000000) && decide (i.natAbs < 2 ^ 64)
def hPow := hI cPow fun i j => i ^ j.toNat
def cShr (_ j : Int) : Bool := decide (0 ≤ j)
def hShr := hI cShr fun i j => i / 2 ^ j.toNat
def hBand := hI0 fun i j => Builtin.bitAnd i j
def hLt := hB0 fun i j => decide (i < j)
def hLe := hB0 fun i j => decide (i ≤ j)
def hGt := hB0 fun i j => decide (j < i)
def hGe := hB0 fun i j => decide (j ≤ i)
def hEq : Dt → Dt → O Dt := fun d e => if SeqAt.shaped d && SeqAt.shaped e then .ok (.bool (PyData.eqv d e)) else .bad
def hNe : Dt → Dt → O Dt := fun d e => if SeqAt.shaped d && SeqAt.shaped e then .ok (.bool (!PyData.eqv d e)) else .bad
def hIs : Dt → Dt → O Dt := fun d e => match e with
  | .none => .ok (.bool (match d with | .none => true | _ => false))
  | _ => .bad
def hIsNot : Dt → Dt → O Dt := fun d e => match e with
  | .none => .ok (.bool (match d with | .none => false | _ => true))
  | _ => .bad
def hIn : Dt → Dt → O Dt := fun d e => match e with
  | .list ds => if SeqAt.shaped d && SeqAt.shaped e then .ok (.bool (ds.any fun z => PyData.eqv z d)) else .bad
  | .tuple ds => if SeqAt.shaped d && SeqAt.shaped e then .ok (.bool (ds.any fun z => PyData.eqv z d)) else .bad
  | _ => .bad
def hNotIn : Dt → Dt → O Dt := fun d e => match e with
  | .list ds => if SeqAt.shaped d && SeqAt.shaped e then .ok (.bool (!ds.any fun z => PyData.eqv z d)) else .bad
  | .tuple ds => if SeqAt.shaped d && SeqAt.shaped e then .ok (.bool (!ds.any fun z => PyData.eqv z d)) else .bad
  | _ => .bad
def hLen : List Dt → O Dt := fun ds => match ds with
  | [.list xs] => .ok (.int xs.length)
  | [.tuple xs] => .ok (.int xs.length)
  | [.str x] => if x.length ≤ 100000 then .ok (.int x.length) else .bad
  | _ => .bad
def hMin2 : List Dt → O Dt := fun ds => match ds with
  | [.int i, .int j] => .ok (.int (if j < i then j else i))
  | _ => .bad
def hMax2 : List Dt → O Dt := fun ds => match ds with
  | [.int i, .int j] => .ok (.int (if j > i then j else i))
  | _ => .bad
def hMin3 : List Dt → O Dt := fun ds => match ds with
  | [.int i, .int j, .int k] => .ok (.int (if j < i then (if k < j then k else j) else (if k < i then k else i)))
  | _ => .bad
def hBits : Dt → O Dt := fun d => match d with
  | .int i => .ok (.int (Builtin.Int.intBits i : Nat))
  | _ => .bad
def hInt1 : List Dt → O Dt := fun ds => match ds with
  | [.int i] => .ok (.int i)
  | [.bool k] => .ok (.int (if k then 1 else 0))
  | _ => .bad
def allB : List Dt → Option (List Bool)
  | [] => some []
  | .bool b :: r => (allB r).map (b :: ·)
  | _ => none
def allI : List Dt → Option (List Int)
  | [] => some []
  | .int b :: r => (allI r).map (b :: ·)
  | _ => none
def hAll : List Dt → O Dt := fun ds => match ds with
  | [.list xs] => match allB xs with
    | some bs => .ok (.bool (bs.all id))
    | none => .bad
  | _ => .bad
def hAny : List Dt → O Dt := fun ds => match ds with
  | [.list xs] => match allB xs with
    | some bs => .ok (.bool (bs.any id))
    | none => .bad
  | _ => .bad
def hSum : List Dt → O Dt := fun ds => match ds with
  | [.list xs] => match allI xs with
    | some bs => .ok (.int bs.sum)
    | none => .bad
  | _ => .bad

section
variable {K : PySem.W.Frag}

theorem scl_I0 {g} : Scl2 (hI0 g) := fun d e => by cases d <;> cases e <;> first | exact .inr rfl | exact .inl ⟨_, rfl, rfl⟩
theorem scl_B0 {g} : Scl2 (hB0 g) := fun d e => by cases d <;> cases e <;> first | exact .inr rfl | exact .inl ⟨_, rfl, rfl⟩
theorem scl_I {C g} : Scl2 (hI C g) := fun d e => by
  cases d <;> cases e <;> first | exact .inr rfl | skip
  unfold hI
  simp only
  split
  · exact .inl ⟨_, rfl, rfl⟩
  · exact .inr rfl
theorem osc_I0 {g : Int → Int → Int} : OSc K (rI0 fun i j => .int (g i j)) (hI0 g) := fun H x y d e Q hx hy h => by
  cases hx <;> first | exact h.elim | skip
  cases hy <;> first | exact h.elim | skip
  exact ⟨_, _, rfl, rfl, h.2 _ (.int _)⟩
theorem osc_B0 {g : Int → Int → Bool} : OSc K (rI0 fun i j => .bl (g i j)) (hB0 g) := fun H x y d e Q hx hy h => by
  cases hx <;> first | exact h.elim | skip
  cases hy <;> first | exact h.elim | skip
  exact ⟨_, _, rfl, rfl, h.2 _ (.bl _)⟩
theorem osc_I {C : Int → Int → Bool} {C' : Int → Int → Prop} {g : Int → Int → Int} (hc : ∀ i j, C i j = true → C' i j) : OSc K (rI C' fun i j => .int (g i j)) (hI C g) := fun H x y d e Q hx hy h => by
  cases hx <;> first | exact h.elim | skip
  cases hy <;> first | exact h.elim | skip
  rename_i i j
  unfold hI at h
  simp only at h
  by_cases c : C i j = true
  · rw [if_pos c] at h
    exact ⟨_, _, rfl, rfl, hc _ _ c, h.2 _ (.int _)⟩
  · rw [if_neg c] at h
    exact h.elim
theorem usc_U {g : Int → Int} : USc K (rU fun i => .int (g i)) (hU g) := fun H x d Q hx h => by
  cases hx <;> first | exact h.elim | skip
  exact ⟨_, rfl, h.2 _ (.int _)⟩
theorem scl_U {g} : Scl1 (hU g) := fun d => by cases d <;> first | exact .inr rfl | exact .inl ⟨_, rfl, rfl⟩
theorem cMul_ok {i j : Int} (h : cMul i j = true) : CMul i j := by
  unfold cMul at h
  rw [Bool.or_eq_true, decide_eq_true_eq, decide_eq_true_eq] at h
  rcases h with h | h
  · exact .inl (by omega)
  · exact .inr (by omega)
theorem cDiv_ok {i j : Int} (h : cDiv i j = true) : CDivW i j := by
  unfold cDiv at h
  rw [Bool.and_eq_true, decide_eq_true_eq, decide_eq_true_eq] at h
  exact wide_div h.1 h.2 (by decide) (by decide)
theorem cMod_ok {i j : Int} (h : cMod i j = true) : 0 < j := by
  unfold cMod at h
  rw [decide_eq_true_eq] at h
  exact h
theorem cPow_ok {i j : Int} (h : cPow i j = true) : CPow i j := by
  unfold cPow at h
  rw [Bool.and_eq_true, Bool.and_eq_true, decide_eq_true_eq, decide_eq_true_eq, decide_eq_true_eq] at h
  exact ⟨h.1.1, h.1.2, h.2⟩
theorem cShr_ok {i j : Int} (h : cShr i j = true) : 0 ≤ j := by
  unfold cShr at h
  rw [decide_eq_true_eq] at h
  exact h
theorem scl_eq : Scl2 hEq := fun d e => by
  unfold hEq
  split
  · exact .inl ⟨_, rfl, rfl⟩
  · exact .inr rfl
theorem scl_ne : Scl2 hNe := fun d e => by
  unfold hNe
  split
  · exact .inl ⟨_, rfl, rfl⟩
  · exact .inr rfl
theorem osc_eq : OSc K (rEqD K) hEq := fun H x y d e Q hx hy h => by
  unfold hEq at h
  by_cases c : (SeqAt.shaped d && SeqAt.shaped e) = true
  · rw [if_pos c] at h
    rw [Bool.and_eq_true] at c
    exact ⟨d, e, hx.dp, hy.dp, c.1, c.2, h.2 _ (.bl _)⟩
  · rw [if_neg c] at h
    exact h.elim
theorem osc_ne : OSc K (rNeD K) hNe := fun H x y d e Q hx hy h => by
  unfold hNe at h
  by_cases c : (SeqAt.shaped d && SeqAt.shaped e) = true
  · rw [if_pos c] at h
    rw [Bool.and_eq_true] at c
    exact ⟨d, e, hx.dp, hy.dp, c.1, c.2, h.2 _ (.bl _)⟩
  · rw [if_neg c] at h
    exact h.elim
theorem scl_is : Scl2 hIs := fun d e => by cases e <;> first | exact .inr rfl | exact .inl ⟨_, rfl, rfl⟩
theorem scl_isNot : Scl2 hIsNot := fun d e => by cases e <;> first | exact .inr rfl | exact .inl ⟨_, rfl, rfl⟩
theorem osc_is : OSc K (fun x y H Q => y = .non ∧ Q (.bl (decide (x = .non))) H) hIs := fun H x y d e Q hx hy h => by
  cases hy <;> first | exact h.elim | skip
  refine ⟨rfl, h.2 _ ?_⟩
  cases hx <;> exact .bl _
theorem osc_isNot : OSc K (fun x y H Q => y = .non ∧ Q (.bl (!decide (x = .non))) H) hIsNot := fun H x y d e Q hx hy h => by
  cases hy <;> first | exact h.elim | skip
  refine ⟨rfl, h.2 _ ?_⟩
  cases hx <;> exact .bl _

/-! ### in, not in -/
def rInDT (K : PySem.W.Frag) (neg : Bool) : R2 := fun x y H Q => ∃ d e ds, Dp K H x d ∧ Dp K H y e ∧ (e = .list ds ∨ e = .tuple ds) ∧ SeqAt.shaped d = true ∧ SeqAt.shaped e = true ∧ Q (.bl (if neg then !ds.any fun z => PyData.eqv z d else ds.any fun z => PyData.eqv z d)) H
theorem room_in_any {A : Around} {d e : PyData} {ds : List PyData} (sd : SeqAt.shaped d = true) (hu : A.units + 65 < cLine) : A.units + 1 + min (PyData.depthAll ds) d.depth < cLine := by
  have h1 := SeqAt.depth_of_shaped sd
  have h2 : min (PyData.depthAll ds) d.depth ≤ d.depth := Nat.min_le_right _ _
  omega
theorem op_inDT {X : Cx} (hu : X.A.units + 65 < cLine) : OpR X (compareOp .In) (rInDT X.K false) := by
  intro pins s σ H x y v u Q I rx ry h
  obtain ⟨d, e, ds, hd, he, ee, sd, se, q⟩ := h
  obtain ⟨as, r1⟩ := Dp.reads I d x v hd rx
  obtain ⟨bs, r2⟩ := Dp.reads I e y u he ry
  rcases ee with rfl | rfl
  · exact SeqAt.in_list_reads r2 r1 (SeqAt.canLay_of_shaped se) (SeqAt.canLay_of_shaped sd) (room_in_any (e := d) sd hu) ⟨.bl _, H, I, rfl, q⟩
  · exact SeqAt.in_tuple_reads r2 r1 (SeqAt.canLay_of_shaped se) (SeqAt.canLay_of_shaped sd) (room_in_any (e := d) sd hu) ⟨.bl _, H, I, rfl, q⟩
theorem op_notInDT {X : Cx} (hu : X.A.units + 65 < cLine) : OpR X (compareOp .NotIn) (rInDT X.K true) := by
  intro pins s σ H x y v u Q I rx ry h
  obtain ⟨d, e, ds, hd, he, ee, sd, se, q⟩ := h
  obtain ⟨as, r1⟩ := Dp.reads I d x v hd rx
  obtain ⟨bs, r2⟩ := Dp.reads I e y u he ry
  rcases ee with rfl | rfl
  · exact SeqAt.notIn_list_reads r2 r1 (SeqAt.canLay_of_shaped se) (SeqAt.canLay_of_shaped sd) (room_in_any (e := d) sd hu) ⟨.bl _, H, I, rfl, q⟩
  · exact SeqAt.notIn_tuple_reads r2 r1 (SeqAt.canLay_of_shaped se) (SeqAt.canLay_of_shaped sd) (room_in_any (e := d) sd hu) ⟨.bl _, H, I, rfl, q⟩
theorem scl_in : Scl2 hIn := fun d e => by
  unfold hIn
  cases e <;> first | exact .inr rfl | (simp only; split <;> first | exact .inl ⟨_, rfl, rfl⟩ | exact .inr rfl)
theorem scl_notIn : Scl2 hNotIn := fun d e => by
  unfold hNotIn
  cases e <;> first | exact .inr rfl | (simp only; split <;> first | exact .inl ⟨_, rfl, rfl⟩ | exact .inr rfl)
theorem osc_in : OSc K (rInDT K false) hIn := fun H x y d e Q hx hy h => by
  unfold hIn at h
  cases e <;> first | exact h.elim | skip
  all_goals rename_i ds
  · simp only at h
    generalize he : (PyData.list ds : PyData) = e at h hy
    by_cases c : (SeqAt.shaped d && SeqAt.shaped e) = true
    · rw [if_pos c] at h
      rw [Bool.and_eq_true] at c
      exact ⟨d, e, ds, hx.dp, hy.dp, .inl he.symm, c.1, c.2, h.2 _ (.bl _)⟩
    · rw [if_neg c] at h
      exact h.elim
  · simp only at h
    generalize he : (PyData.tuple ds : PyData) = e at h hy
    by_cases c : (SeqAt.shaped d && SeqAt.shaped e) = true
    · rw [if_pos c] at h
      rw [Bool.and_eq_true] at c
      exact ⟨d, e, ds, hx.dp, hy.dp, .inr he.symm, c.1, c.2, h.2 _ (.bl _)⟩
    · rw [if_neg c] at h
      exact h.elim
theorem osc_notIn : OSc K (rInDT K true) hNotIn := fun H x y d e Q hx hy h => by
  unfold hNotIn at h
  cases e <;> first | exact h.elim | skip
  all_goals rename_i ds
  · simp only at h
    generalize he : (PyData.list ds : PyData) = e at h hy
    by_cases c : (SeqAt.shaped d && SeqAt.shaped e) = true
    · rw [if_pos c] at h
      rw [Bool.and_eq_true] at c
      exact ⟨d, e, ds, hx.dp, hy.dp, .inl he.symm, c.1, c.2, h.2 _ (.bl _)⟩
    · rw [if_neg c] at h
      exact h.elim
  · simp only at h
    generalize he : (PyData.tuple ds : PyData) = e at h hy
    by_cases c : (SeqAt.shaped d && SeqAt.shaped e) = true
    · rw [if_pos c] at h
      rw [Bool.and_eq_true] at c
      exact ⟨d, e, ds, hx.dp, hy.dp, .inr he.symm, c.1, c.2, h.2 _ (.bl _)⟩
    · rw [if_neg c] at h
      exact h.elim

/-! ### calls of built-ins with a scalar's answer -/
theorem Rp.lenV {F : Addr → Prop} {H : Hp} {v : V} {xs : List Dt} (h : Rp K F H v (.list xs)) : LenV K v H xs.length := by
  cases h with
  | lst h _ r => exact .inl ⟨_, .inl (.inl h), by first | exact r.length | exact r.length.symm⟩
  | fz h r => exact .inl ⟨_, h.sql, by first | exact r.length | exact r.length.symm⟩
theorem Rp.lenVt {F : Addr → Prop} {H : Hp} {v : V} {xs : List Dt} (h : Rp K F H v (.tuple xs)) : LenV K v H xs.length := by
  cases h with
  | tup h r => exact .inr ⟨_, h, by first | exact r.length | exact r.length.symm⟩
theorem csc_len : CSc K (fun xs H Q => ∃ x n, xs = [x] ∧ LenV K x H n ∧ Q (.int n) H) hLen := fun H xs ds Q hx h => by
  unfold hLen at h
  split at h
  · rename_i e
    split at e
    · cases hx with
      | cons h1 h2 =>
        cases h2
        cases e
        exact ⟨_, _, rfl, h1.lenV, h.2 _ (.int _)⟩
    · cases hx with
      | cons h1 h2 =>
        cases h2
        cases e
        exact ⟨_, _, rfl, h1.lenVt, h.2 _ (.int _)⟩
    · split at e
      · rename_i c
        cases e
        cases hx with
        | cons h1 h2 =>
          cases h2
          cases h1
          exact ⟨_, _, rfl, ⟨sz_le c, rfl⟩, h.2 _ (.int _)⟩
      · cases e
    · cases e
  · exact h.elim
theorem scl_len : SclA hLen := fun ds => by
  unfold hLen
  split
  · exact .inl ⟨_, rfl, rfl⟩
  · exact .inl ⟨_, rfl, rfl⟩
  · split
    · exact .inl ⟨_, rfl, rfl⟩
    · exact .inr rfl
  · exact .inr rfl
theorem rpInt {F : Addr → Prop} {H : Hp} {v : V} {i : Int} (h : Rp K F H v (.int i)) : v = .int i := by cases h; rfl
theorem rpBl {F : Addr → Prop} {H : Hp} {v : V} {i : Bool} (h : Rp K F H v (.bool i)) : v = .bl i := by cases h; rfl
theorem csc_min2 : CSc K (fun xs H Q => ∃ i j, xs = [.int i, .int j] ∧ Q (.int (if j < i then j else i)) H) hMin2 := fun H xs ds Q hx h => by
  unfold hMin2 at h
  split at h
  · rename_i e
    split at e
    · cases hx with
      | cons h1 h2 =>
        cases h2 with
        | cons h2 h3 =>
          cases h3
          cases e
          rw [rpInt h1, rpInt h2]
          exact ⟨_, _, rfl, h.2 _ (.int _)⟩
    · cases e
  · exact h.elim
theorem scl_min2 : SclA hMin2 := fun ds => by
  unfold hMin2
  split
  · exact .inl ⟨_, rfl, rfl⟩
  · exact .inr rfl
theorem csc_max2 : CSc K (fun xs H Q => ∃ i j, xs = [.int i, .int j] ∧ Q (.int (if j > i then j else i)) H) hMax2 := fun H xs ds Q hx h => by
  unfold hMax2 at h
  split at h
  · rename_i e
    split at e
    · cases hx with
      | cons h1 h2 =>
        cases h2 with
        | cons h2 h3 =>
          cases h3
          cases e
          rw [rpInt h1, rpInt h2]
          exact ⟨_, _, rfl, h.2 _ (.int _)⟩
    · cases e
  · exact h.elim
theorem scl_max2 : SclA hMax2 := fun ds => by
  unfold hMax2
  split
  · exact .inl ⟨_, rfl, rfl⟩
  · exact .inr rfl
def rMin3 : List V → Hp → VK → Prop := fun xs H Q => ∃ i j k, xs = [.int i, .int j, .int k] ∧ Q (.int (if j < i then (if k < j then k else j) else (if k < i then k else i))) H
theorem call_min3 {X : Cx} (hc : X.calm = true) : CallR X (.builtin "min") rMin3 := by
  intro pins s σ H xs us Q I r h
  obtain ⟨i, j, k, rfl, q⟩ := h
  cases r with
  | cons r1 r =>
    cases r with
    | cons r2 r =>
      cases r with
      | cons r3 r =>
        cases r
        obtain ⟨t1, rfl⟩ := r1
        obtain ⟨t2, rfl⟩ := r2
        obtain ⟨t3, rfl⟩ := r3
        refine min_three_ints (I.ok.hd hc) fun h' tk k => ⟨_, H, I.kept k, ?_, q⟩
        split
        · split <;> exact ⟨_, rfl⟩
        · split <;> exact ⟨_, rfl⟩
theorem csc_min3 : CSc K rMin3 hMin3 := fun H xs ds Q hx h => by
  unfold hMin3 at h
  split at h
  · rename_i e
    split at e
    · cases hx with
      | cons h1 h2 =>
        cases h2 with
        | cons h2 h3 =>
          cases h3 with
          | cons h3 h4 =>
            cases h4
            cases e
            rw [rpInt h1, rpInt h2, rpInt h3]
            exact ⟨_, _, _, rfl, h.2 _ (.int _)⟩
    · cases e
  · exact h.elim
theorem scl_min3 : SclA hMin3 := fun ds => by
  unfold hMin3
  split
  · exact .inl ⟨_, rfl, rfl⟩
  · exact .inr rfl
theorem csc_int1 : CSc K (fun xs H Q => (∃ i, xs = [.int i] ∧ Q (.int i) H) ∨ ∃ k, xs = [.bl k] ∧ Q (.int (if k then 1 else 0)) H) hInt1 := fun H xs ds Q hx h => by
  unfold hInt1 at h
  split at h
  · rename_i e
    split at e
    · cases hx with
      | cons h1 h2 =>
        cases h2
        cases e
        rw [rpInt h1]
        exact .inl ⟨_, rfl, h.2 _ (.int _)⟩
    · cases hx with
      | cons h1 h2 =>
        cases h2
        cases e
        rw [rpBl h1]
        exact .inr ⟨_, rfl, h.2 _ (.int _)⟩
    · cases e
  · exact h.elim
theorem scl_int1 : SclA hInt1 := fun ds => by
  unfold hInt1
  split
  · exact .inl ⟨_, rfl, rfl⟩
  · exact .inl ⟨_, rfl, rfl⟩
  · exact .inr rfl
theorem rp_bools {F : Addr → Prop} {H : Hp} : ∀ {xs : List V} {ds : List Dt} {bs : List Bool}, RpA K F H xs ds → allB ds = some bs → xs = bs.map V.bl
  | _, _, _, .nil, e => by cases e; rfl
  | _, _, bs, .cons (d := d) h r, e => by
    cases h <;> first | (cases e; done) | skip
    rename_i b _ _
    unfold allB at e
    cases q : allB _ with
    | none => rw [q] at e; cases e
    | some cs =>
      rw [q] at e
      cases e
      rw [rp_bools r q]
      rfl
theorem rp_ints {F : Addr → Prop} {H : Hp} : ∀ {xs : List V} {ds : List Dt} {bs : List Int}, RpA K F H xs ds → allI ds = some bs → xs = bs.map V.int
  | _, _, _, .nil, e => by cases e; rfl
  | _, _, bs, .cons (d := d) h r, e => by
    cases h <;> first | (cases e; done) | skip
    rename_i b _ _
    unfold allI at e
    cases q : allI _ with
    | none => rw [q] at e; cases e
    | some cs =>
      rw [q] at e
      cases e
      rw [rp_ints r q]
      rfl
theorem Rp.sql {F : Addr → Prop} {H : Hp} {v : V} {ds : List Dt} (h : Rp K F H v (.list ds)) : ∃ a xs, v = .ref a ∧ SqL K H a xs ∧ RpA K F H xs ds := by
  cases h with
  | lst h _ r => exact ⟨_, _, rfl, .inl (.inl h), r⟩
  | fz h r => exact ⟨_, _, rfl, h.sql, r⟩
theorem csc_all : CSc K (rAll K) hAll := fun H xs ds Q hx h => by
  unfold hAll at h
  split at h
  · rename_i e
    split at e
    · split at e
      · rename_i bs eb
        cases e
        cases hx with
        | cons h1 h2 =>
          cases h2
          obtain ⟨a, ys, rfl, hs, r⟩ := h1.sql
          rw [rp_bools r eb] at hs
          exact ⟨a, bs, rfl, hs, h.2 _ (.bl _)⟩
      · cases e
    · cases e
  · exact h.elim
theorem scl_all : SclA hAll := fun ds => by
  unfold hAll
  split
  · split
    · exact .inl ⟨_, rfl, rfl⟩
    · exact .inr rfl
  · exact .inr rfl
theorem csc_any : CSc K (rAny K) hAny := fun H xs ds Q hx h => by
  unfold hAny at h
  split at h
  · rename_i e
    split at e
    · split at e
      · rename_i bs eb
        cases e
        cases hx with
        | cons h1 h2 =>
          cases h2
          obtain ⟨a, ys, rfl, hs, r⟩ := h1.sql
          rw [rp_bools r eb] at hs
          exact ⟨a, bs, rfl, hs, h.2 _ (.bl _)⟩
      · cases e
    · cases e
  · exact h.elim
theorem scl_any : SclA hAny := fun ds => by
  unfold hAny
  split
  · split
    · exact .inl ⟨_, rfl, rfl⟩
    · exact .inr rfl
  · exact .inr rfl
theorem csc_sum : CSc K (rSum K) hSum := fun H xs ds Q hx h => by
  unfold hSum at h
  split at h
  · rename_i e
    split at e
    · split at e
      · rename_i bs eb
        cases e
        cases hx with
        | cons h1 h2 =>
          cases h2
          obtain ⟨a, ys, rfl, hs, r⟩ := h1.sql
          rw [rp_ints r eb] at hs
          exact ⟨a, bs, rfl, hs, h.2 _ (.int _)⟩
      · cases e
    · cases e
  · exact h.elim
theorem scl_sum : SclA hSum := fun ds => by
  unfold hSum
  split
  · split
    · exact .inl ⟨_, rfl, rfl⟩
    · exact .inr rfl
  · exact .inr rfl
theorem usc_bits : USc K (fun x H Q => ∃ i, x = .int i ∧ Q (.int (Builtin.Int.intBits i : Nat)) H) hBits := fun H x d Q hx h => by
  cases hx <;> first | exact h.elim | skip
  exact ⟨_, rfl, h.2 _ (.int _)⟩
theorem scl_bits : Scl1 hBits := fun d => by cases d <;> first | exact .inr rfl | exact .inl ⟨_, rfl, rfl⟩
end

/-! ### the rules -/
section
variable {X : Cx} {K : PySem.W.Frag} {W : Wt} {Δ : List Kd} {a b c e : Expr} {es : List Expr} {ta tb tc te : TE} {tt tu : TT} {tA : TA} {ga gb gc g : Gd} {gt gu : List Dt → O Bool} {gA : List Dt → O (List Dt)} {k k1 k2 : Rk} {av fr av' fr' : Bool} {pos : Pos}

theorem x_var (i : Nat) {x : Str} (hk : Δ[i]? = some (.im fr) := by rfl) (hN : X.N[i]? = some x := by rfl) (hv : Vis X.env.scope x := by first | exact Or.inl rfl | exact Or.inr (Or.inl rfl) | exact Or.inr (Or.inr rfl)) (hd : (x == ("__debug__" : Str)) = false := by decide)
    (hcd : (x == ("__classdict__" : Str)) = false := by decide) (hK : X.K = K := by rfl) : PD X K W Δ (.Name x pos) (tVar i) (.v true fr) (gVar i) := ⟨pe_var hN hv hd hcd, hK, se_var hk⟩
theorem x_own (i : Nat) {x : Str} (hk : Δ[i]? = some (.own .l fr) := by rfl) (hN : X.N[i]? = some x := by rfl) (hv : Vis X.env.scope x := by first | exact Or.inl rfl | exact Or.inr (Or.inl rfl) | exact Or.inr (Or.inr rfl)) (hd : (x == ("__debug__" : Str)) = false := by decide)
    (hcd : (x == ("__classdict__" : Str)) = false := by decide) (hK : X.K = K := by rfl) : PD X K W Δ (.Name x pos) (tVar i) (.o fr) (gVar i) := ⟨pe_var hN hv hd hcd, hK, se_own hk⟩
theorem x_int {i : Int} {j} (hK : X.K = K := by rfl) : PD X K W Δ (.Constant (.int i) j pos) (tC (.int i)) (.v true true) (gC (.int i)) := ⟨pe_int, hK, se_int⟩
theorem x_bl {i : Bool} {j} (hK : X.K = K := by rfl) : PD X K W Δ (.Constant (.bool i) j pos) (tC (.bl i)) (.v true true) (gC (.bool i)) := ⟨pe_bl, hK, se_bl⟩
theorem x_non {j} (hK : X.K = K := by rfl) : PD X K W Δ (.Constant .none j pos) (tC .non) (.v true true) (gC .none) := ⟨pe_non, hK, se_non⟩
theorem x_str {x : Str} {j} (hK : X.K = K := by rfl) : PD X K W Δ (.Constant (.str x) j pos) (tC (.str x)) (.v true true) (gC (.str x)) := ⟨pe_str, hK, se_str⟩
theorem x_glob {x : Str} {v : V} {u : Value} {d : Dt} (hm : X.mg x = some u) (r : RelV v u) (hr : Rp K (fun _ => False) (fun _ => none) v d) (s : scl d = true := by rfl) (hg : Gl X x := by rfl) (hd : (x == ("__debug__" : Str)) = false := by decide) (hK : X.K = K := by rfl) :
    PD X K W Δ (.Name x pos) (tC v) (.v true true) (gC d) := ⟨pe_glob hg hm r hd, hK, se_c hr s⟩

theorem PD.wk (h : PD X K W Δ e te (.v av fr) g) (h1 : av' = true → av = true := by decide) (h2 : fr' = true → fr = true := by decide) : PD X K W Δ e te (.v av' fr') g := ⟨h.pe, h.hK, h.se.wk h1 h2⟩
theorem PD.ov (h : PD X K W Δ e te (.o fr) g) : PD X K W Δ e te (.v false fr) g := ⟨h.pe, h.hK, h.se.ov⟩
theorem PD.nv (h : PD X K W Δ e te (.new .l fr) g) : PD X K W Δ e te (.v true fr) g := ⟨h.pe, h.hK, h.se.nv⟩
theorem PD.no (h : PD X K W Δ e te (.new .l fr) g) : PD X K W Δ e te (.o fr) g := ⟨h.pe, h.hK, h.se.no⟩
theorem PD.pur (h : PD X K W Δ e te (.v av fr) g) : PD X K W Δ e te (.v true true) (gPur g) := ⟨h.pe, h.hK, h.se.pur⟩
theorem PD.purN (h : PD X K W Δ e te (.new .l fr) g) : PD X K W Δ e te (.new .l true) (gPurN g) := ⟨h.pe, h.hK, h.se.purN⟩
theorem PD.purO (h : PD X K W Δ e te (.o fr) g) : PD X K W Δ e te (.o true) (gPurN g) := ⟨h.pe, h.hK, h.se.purO⟩

theorem x_add (ha : PD X K W Δ a ta (.v av fr) ga) (hb : PD X K W Δ b tb (.v av' fr') gb) : PD X K W Δ (.BinOp a .Add b pos) (tOp (rI0 fun i j => .int (i + j)) ta tb) (.v true true) (gOp hAdd ga gb) := ⟨pe_op op_add ha.pe hb.pe, ha.hK, se_op scl_I0 osc_I0 ha.se hb.se⟩
theorem x_sub (ha : PD X K W Δ a ta (.v av fr) ga) (hb : PD X K W Δ b tb (.v av' fr') gb) : PD X K W Δ (.BinOp a .Sub b pos) (tOp (rI0 fun i j => .int (i - j)) ta tb) (.v true true) (gOp hSub ga gb) := ⟨pe_op op_sub ha.pe hb.pe, ha.hK, se_op scl_I0 osc_I0 ha.se hb.se⟩
theorem x_mul (ha : PD X K W Δ a ta (.v av fr) ga) (hb : PD X K W Δ b tb (.v av' fr') gb) : PD X K W Δ (.BinOp a .Mult b pos) (tOp (rI CMul fun i j => .int (i * j)) ta tb) (.v true true) (gOp hMul ga gb) := ⟨pe_op op_mul ha.pe hb.pe, ha.hK, se_op scl_I (osc_I fun _ _ => cMul_ok) ha.se hb.se⟩
theorem x_div (ha : PD X K W Δ a ta (.v av fr) ga) (hb : PD X K W Δ b tb (.v av' fr') gb) : PD X K W Δ (.BinOp a .FloorDiv b pos) (tOp (rI CDivW fun i j => .int (i / j)) ta tb) (.v true true) (gOp hDiv ga gb) := ⟨pe_op op_fdivW ha.pe hb.pe, ha.hK, se_op scl_I (osc_I fun _ _ => cDiv_ok) ha.se hb.se⟩
theorem x_mod (ha : PD X K W Δ a ta (.v av fr) ga) (hb : PD X K W Δ b tb (.v av' fr') gb) : PD X K W Δ (.BinOp a .Mod b pos) (tOp (rI (fun _ j => 0 < j) fun i j => .int (i % j)) ta tb) (.v true true) (gOp hMod ga gb) := ⟨pe_op op_mod ha.pe hb.pe, ha.hK, se_op scl_I (osc_I fun _ _ => cMod_ok) ha.se hb.se⟩
theorem x_pow (ha : PD X K W Δ a ta (.v av fr) ga) (hb : PD X K W Δ b tb (.v av' fr') gb) : PD X K W Δ (.BinOp a .Pow b pos) (tOp (rI CPow fun i j => .int (i ^ j.toNat)) ta tb) (.v true true) (gOp hPow ga gb) := ⟨pe_op op_pow ha.pe hb.pe, ha.hK, se_op scl_I (osc_I fun _ _ => cPow_ok) ha.se hb.se⟩
theorem x_shr (ha : PD X K W Δ a ta (.v av fr) ga) (hb : PD X K W Δ b tb (.v av' fr') gb) : PD X K W Δ (.BinOp a .RShift b pos) (tOp (rI (fun _ j => 0 ≤ j) fun i j => .int (i / 2 ^ j.toNat)) ta tb) (.v true true) (gOp hShr ga gb) := ⟨pe_op op_shr ha.pe hb.pe, ha.hK, se_op scl_I (osc_I fun _ _ => cShr_ok) ha.se hb.se⟩
theorem x_band (ha : PD X K W Δ a ta (.v av fr) ga) (hb : PD X K W Δ b tb (.v av' fr') gb) : PD X K W Δ (.BinOp a .BitAnd b pos) (tOp (rI0 fun i j => .int (Builtin.bitAnd i j)) ta tb) (.v true true) (gOp hBand ga gb) := ⟨pe_op op_and ha.pe hb.pe, ha.hK, se_op scl_I0 osc_I0 ha.se hb.se⟩
theorem x_neg (ha : PD X K W Δ a ta (.v av fr) ga) : PD X K W Δ (.UnaryOp .USub a pos) (tUn (rU fun i => .int (-i)) ta) (.v true true) (gUn (hU fun i => -i) ga) := ⟨pe_un un_neg ha.pe, ha.hK, se_un scl_U usc_U ha.se⟩
theorem x_bits {apos : Pos} (ha : PD X K W Δ a ta (.v av fr) ga) (hbase : attributeBase a "bit_length" X.env (eval a X.env) = eval a X.env := by rfl) (hline : (apos.endLine == pos.line) = true := by rfl) :
    PD X K W Δ (.Call (.Attribute a "bit_length" apos) [] [] pos) (tBits ta) (.v true true) (gUn hBits ga) := ⟨pe_bits ha.pe hbase hline, ha.hK, se_un scl_bits usc_bits ha.se⟩

theorem x_lt (ha : PD X K W Δ a ta (.v av fr) ga) (hb : PD X K W Δ b tb (.v av' fr') gb) : PD X K W Δ (.Compare a [.Lt] [b] pos) (tOp (rI0 fun i j => .bl (decide (i < j))) ta tb) (.v true true) (gOp hLt ga gb) := ⟨pe_cmpR op_lt ha.pe hb.pe (nobehind _ (by decide) (by decide)), ha.hK, se_op scl_B0 osc_B0 ha.se hb.se⟩
theorem x_le (ha : PD X K W Δ a ta (.v av fr) ga) (hb : PD X K W Δ b tb (.v av' fr') gb) : PD X K W Δ (.Compare a [.LtE] [b] pos) (tOp (rI0 fun i j => .bl (decide (i ≤ j))) ta tb) (.v true true) (gOp hLe ga gb) := ⟨pe_cmpR op_le ha.pe hb.pe (nobehind _ (by decide) (by decide)), ha.hK, se_op scl_B0 osc_B0 ha.se hb.se⟩
theorem x_gt (ha : PD X K W Δ a ta (.v av fr) ga) (hb : PD X K W Δ b tb (.v av' fr') gb) : PD X K W Δ (.Compare a [.Gt] [b] pos) (tOp (rI0 fun i j => .bl (decide (j < i))) ta tb) (.v true true) (gOp hGt ga gb) := ⟨pe_cmpR op_gt ha.pe hb.pe (nobehind _ (by decide) (by decide)), ha.hK, se_op scl_B0 osc_B0 ha.se hb.se⟩
theorem x_ge (ha : PD X K W Δ a ta (.v av fr) ga) (hb : PD X K W Δ b tb (.v av' fr') gb) : PD X K W Δ (.Compare a [.GtE] [b] pos) (tOp (rI0 fun i j => .bl (decide (j ≤ i))) ta tb) (.v true true) (gOp hGe ga gb) := ⟨pe_cmpR op_ge ha.pe hb.pe (nobehind _ (by decide) (by decide)), ha.hK, se_op scl_B0 osc_B0 ha.se hb.se⟩
theorem x_eq {n : Nat} (hr : Room n X.A) (ha : PD X K W Δ a ta (.v av fr) ga) (hb : PD X K W Δ b tb (.v av' fr') gb) : PD X K W Δ (.Compare a [.Eq] [b] pos) (tOp (rEqD K) ta tb) (.v true true) (gOp hEq ga gb) :=
  ⟨pe_cmpR (by have q := op_eqD (X := X) (by have := hr.un; omega); rw [ha.hK] at q; exact q) ha.pe hb.pe (nobehind _ (by decide) (by decide)), ha.hK, se_op scl_eq osc_eq ha.se hb.se⟩
theorem x_ne {n : Nat} (hr : Room n X.A) (ha : PD X K W Δ a ta (.v av fr) ga) (hb : PD X K W Δ b tb (.v av' fr') gb) : PD X K W Δ (.Compare a [.NotEq] [b] pos) (tOp (rNeD K) ta tb) (.v true true) (gOp hNe ga gb) :=
  ⟨pe_cmpR (by have q := op_neD (X := X) (by have := hr.un; omega); rw [ha.hK] at q; exact q) ha.pe hb.pe (nobehind _ (by decide) (by decide)), ha.hK, se_op scl_ne osc_ne ha.se hb.se⟩
theorem x_in {n : Nat} (hr : Room n X.A) (ha : PD X K W Δ a ta (.v av fr) ga) (hb : PD X K W Δ b tb (.v av' fr') gb) (hm : behindInMarks .In b = false := by rfl) : PD X K W Δ (.Compare a [.In] [b] pos) (tOp (rInDT K false) ta tb) (.v true true) (gOp hIn ga gb) :=
  ⟨pe_cmpR (by have q := op_inDT (X := X) (by have := hr.un; omega); rw [ha.hK] at q; exact q) ha.pe hb.pe hm, ha.hK, se_op scl_in osc_in ha.se hb.se⟩
theorem x_notIn {n : Nat} (hr : Room n X.A) (ha : PD X K W Δ a ta (.v av fr) ga) (hb : PD X K W Δ b tb (.v av' fr') gb) (hm : behindInMarks .NotIn b = false := by rfl) : PD X K W Δ (.Compare a [.NotIn] [b] pos) (tOp (rInDT K true) ta tb) (.v true true) (gOp hNotIn ga gb) :=
  ⟨pe_cmpR (by have q := op_notInDT (X := X) (by have := hr.un; omega); rw [ha.hK] at q; exact q) ha.pe hb.pe hm, ha.hK, se_op scl_notIn osc_notIn ha.se hb.se⟩
theorem x_isN (ha : PD X K W Δ a ta (.v av fr) ga) (hb : PD X K W Δ b tb (.v av' fr') gb) : PD X K W Δ (.Compare a [.Is] [b] pos) (tOp (fun x y H Q => y = .non ∧ Q (.bl (decide (x = .non))) H) ta tb) (.v true true) (gOp hIs ga gb) := ⟨pe_cmpR op_isN ha.pe hb.pe (nobehind _ (by decide) (by decide)), ha.hK, se_op scl_is osc_is ha.se hb.se⟩
theorem x_notN (ha : PD X K W Δ a ta (.v av fr) ga) (hb : PD X K W Δ b tb (.v av' fr') gb) : PD X K W Δ (.Compare a [.IsNot] [b] pos) (tOp (fun x y H Q => y = .non ∧ Q (.bl (!decide (x = .non))) H) ta tb) (.v true true) (gOp hIsNot ga gb) := ⟨pe_cmpR op_notN ha.pe hb.pe (nobehind _ (by decide) (by decide)), ha.hK, se_op scl_isNot osc_isNot ha.se hb.se⟩

/-! tests -/
theorem c_val (h : PD X K W Δ e te (.v av fr) g) (he : ∀ whole, isTrue e X.env whole = (do let v ← whole; standAt e.pos; holding [v] (truthy v)) := by intro _; rfl) : TD X K W Δ e (tB te) (gTest g) := ⟨pt_val h.pe he, h.hK, st_B h.se⟩
theorem c_not (h : TD X K W Δ a tt gt) : TD X K W Δ (.UnaryOp .Not a pos) (tNot tt) (gNot gt) := ⟨pt_not h.pt, h.hK, st_not h.st⟩
theorem w_and1 (h : TD X K W Δ a tt gt) : WD X K W Δ (.BoolOp .And [a] pos) tt gt := ⟨pw_and1 h.pt, h.hK, h.st⟩
theorem w_or1 (h : TD X K W Δ a tt gt) : WD X K W Δ (.BoolOp .Or [a] pos) tt gt := ⟨pw_or1 h.pt, h.hK, h.st⟩
theorem w_and (h : TD X K W Δ a tt gt) (h2 : WD X K W Δ (.BoolOp .And (b :: es) pos) tu gu) : WD X K W Δ (.BoolOp .And (a :: b :: es) pos) (tAnd tt tu) (gAnd gt gu) := ⟨pw_and h.pt h2.pw, h.hK, st_and h.st h2.st⟩
theorem w_or (h : TD X K W Δ a tt gt) (h2 : WD X K W Δ (.BoolOp .Or (b :: es) pos) tu gu) : WD X K W Δ (.BoolOp .Or (a :: b :: es) pos) (tOr tt tu) (gOr gt gu) := ⟨pw_or h.pt h2.pw, h.hK, st_or h.st h2.st⟩
theorem c_w (h : WD X K W Δ e tt gt) : TD X K W Δ e tt gt := ⟨h.pw.pt, h.hK, h.st⟩
theorem x_ifE (h : TD X K W Δ c tt gt) (ha : PD X K W Δ a ta k ga) (hb : PD X K W Δ b tb k gb) : PD X K W Δ (.IfExp c a b pos) (tIf tt ta tb) k (gIf gt ga gb) := ⟨pe_ifExp h.pt ha.pe hb.pe, h.hK, se_if h.st ha.se hb.se⟩
theorem x_one {op} (h : PD X K W Δ a ta k ga) : PD X K W Δ (.BoolOp op [a] pos) ta k ga := ⟨pe_one h.pe, h.hK, h.se⟩
theorem x_and (ha : PD X K W Δ a ta (.v av fr) ga) (hb : PD X K W Δ (.BoolOp .And (b :: es) pos) tb (.v true true) gb) : PD X K W Δ (.BoolOp .And (a :: b :: es) pos) (tAndV ta tb) (.v true true) (gAndV ga gb) := ⟨pe_and ha.pe hb.pe, ha.hK, se_andV ha.se hb.se⟩
theorem x_or (ha : PD X K W Δ a ta (.v av fr) ga) (hb : PD X K W Δ (.BoolOp .Or (b :: es) pos) tb (.v true true) gb) : PD X K W Δ (.BoolOp .Or (a :: b :: es) pos) (tOrV ta tb) (.v true true) (gOrV ga gb) := ⟨pe_or ha.pe hb.pe, ha.hK, se_orV ha.se hb.se⟩
theorem x_not (ha : PD X K W Δ a ta (.v av fr) ga) : PD X K W Δ (.UnaryOp .Not a pos) (tNotV ta) (.v true true) (gNotV ga) := ⟨pe_not ha.pe, ha.hK, se_notV ha.se⟩

/-! argument lists, displays -/
theorem a_nil (hK : X.K = K := by rfl) : AD X K W Δ [] tNil true true gNil := ⟨pa_nil, hK, sa_nil⟩
theorem a_cons (ha : PD X K W Δ a ta (.v av fr) ga) (hr : AD X K W Δ es tA av' fr' gA) (hs : starEach (a :: es) X.env = (false, eval a X.env) :: starEach es X.env := by rfl) : AD X K W Δ (a :: es) (tCons ta tA) (av && av') (fr && fr') (gCons ga gA) := ⟨pa_cons ha.pe hr.pa hs, ha.hK, sa_cons ha.se hr.sa⟩
theorem AD.wk (h : AD X K W Δ es tA av fr gA) (h1 : av' = true → av = true := by decide) (h2 : fr' = true → fr = true := by decide) : AD X K W Δ es tA av' fr' gA := ⟨h.pa, h.hK, h.sa.wk h1 h2⟩
theorem x_tup {x1} (h : AD X K W Δ es tA av fr gA) : PD X K W Δ (.Tuple es x1 pos) (tTup tA) (.v av fr) (gTup gA) := ⟨pe_tup h.pa, h.hK, se_tup h.sa⟩
theorem x_lst (h : AD X K W Δ es tA true fr gA) : PD X K W Δ (.List es pos) (tLst tA) (.new .l fr) (gLst gA) := ⟨pe_lst h.pa, h.hK, se_lst h.sa⟩
theorem x_lstv (h : AD X K W Δ es tA av fr gA) : PD X K W Δ (.List es pos) (tLst tA) (.v av fr) (gLst gA) := ⟨pe_lst h.pa, h.hK, se_lstv h.sa⟩

/-! calls of built-ins -/
theorem x_len {x : Str} {p : Pos} (hm : X.mg x = none) (h : AD X K W Δ (e :: es) tA av fr gA) (hv : bootBuiltins x = some (.builtin "len") := by decide +kernel) (hg : Gl X x := by rfl) (hn : x ≠ "__name__" := by decide) (hdb : (x == ("__debug__" : Str)) = false := by decide)
    (he : starEach (e :: es) X.env = (false, eval e X.env) :: starEach es X.env := by rfl) (hpl : (backTo pos (starEach es X.env)).any (·.1) = false := by rfl) :
    PD X K W Δ (.Call (.Name x p) (e :: es) [] pos) (tCB (fun xs H Q => ∃ x n, xs = [x] ∧ LenV K x H n ∧ Q (.int n) H) tA) (.v true true) (gCB hLen gA) :=
  ⟨pe_callB (by have q := call_len (X := X); rw [h.hK] at q; exact q) hg hm hv h.pa hn hdb he hpl, h.hK, se_cb scl_len csc_len h.sa⟩
theorem x_min2 {x : Str} {p : Pos} (hm : X.mg x = none) (h : AD X K W Δ (e :: es) tA av fr gA) (hc : X.calm = true := by rfl) (hv : bootBuiltins x = some (.builtin "min") := by decide +kernel) (hg : Gl X x := by rfl) (hn : x ≠ "__name__" := by decide) (hdb : (x == ("__debug__" : Str)) = false := by decide)
    (he : starEach (e :: es) X.env = (false, eval e X.env) :: starEach es X.env := by rfl) (hpl : (backTo pos (starEach es X.env)).any (·.1) = false := by rfl) :
    PD X K W Δ (.Call (.Name x p) (e :: es) [] pos) (tCB (fun xs H Q => ∃ i j, xs = [.int i, .int j] ∧ Q (.int (if j < i then j else i)) H) tA) (.v true true) (gCB hMin2 gA) := ⟨pe_callB (call_min2 hc) hg hm hv h.pa hn hdb he hpl, h.hK, se_cb scl_min2 csc_min2 h.sa⟩
theorem x_max2 {x : Str} {p : Pos} (hm : X.mg x = none) (h : AD X K W Δ (e :: es) tA av fr gA) (hc : X.calm = true := by rfl) (hv : bootBuiltins x = some (.builtin "max") := by decide +kernel) (hg : Gl X x := by rfl) (hn : x ≠ "__name__" := by decide) (hdb : (x == ("__debug__" : Str)) = false := by decide)
    (he : starEach (e :: es) X.env = (false, eval e X.env) :: starEach es X.env := by rfl) (hpl : (backTo pos (starEach es X.env)).any (·.1) = false := by rfl) :
    PD X K W Δ (.Call (.Name x p) (e :: es) [] pos) (tCB (fun xs H Q => ∃ i j, xs = [.int i, .int j] ∧ Q (.int (if j > i then j else i)) H) tA) (.v true true) (gCB hMax2 gA) := ⟨pe_callB (call_max2 hc) hg hm hv h.pa hn hdb he hpl, h.hK, se_cb scl_max2 csc_max2 h.sa⟩
theorem x_min3 {x : Str} {p : Pos} (hm : X.mg x = none) (h : AD X K W Δ (e :: es) tA av fr gA) (hc : X.calm = true := by rfl) (hv : bootBuiltins x = some (.builtin "min") := by decide +kernel) (hg : Gl X x := by rfl) (hn : x ≠ "__name__" := by decide) (hdb : (x == ("__debug__" : Str)) = false := by decide)
    (he : starEach (e :: es) X.env = (false, eval e X.env) :: starEach es X.env := by rfl) (hpl : (backTo pos (starEach es X.env)).any (·.1) = false := by rfl) :
    PD X K W Δ (.Call (.Name x p) (e :: es) [] pos) (tCB rMin3 tA) (.v true true) (gCB hMin3 gA) := ⟨pe_callB (call_min3 hc) hg hm hv h.pa hn hdb he hpl, h.hK, se_cb scl_min3 csc_min3 h.sa⟩
theorem x_int1 {x : Str} {p : Pos} (hm : X.mg x = none) (h : AD X K W Δ (e :: es) tA av fr gA) (hv : bootBuiltins x = some (.type "int") := by decide +kernel) (hg : Gl X x := by rfl) (hn : x ≠ "__name__" := by decide) (hdb : (x == ("__debug__" : Str)) = false := by decide)
    (he : starEach (e :: es) X.env = (false, eval e X.env) :: starEach es X.env := by rfl) (hpl : (backTo pos (starEach es X.env)).any (·.1) = false := by rfl) :
    PD X K W Δ (.Call (.Name x p) (e :: es) [] pos) (tCB (fun xs H Q => (∃ i, xs = [.int i] ∧ Q (.int i) H) ∨ ∃ k, xs = [.bl k] ∧ Q (.int (if k then 1 else 0)) H) tA) (.v true true) (gCB hInt1 gA) := ⟨pe_callTy call_int1 hg hm hv h.pa hn hdb he hpl, h.hK, se_cb scl_int1 csc_int1 h.sa⟩
theorem x_all {x : Str} {p : Pos} (hm : X.mg x = none) (h : AD X K W Δ (e :: es) tA av fr gA) (hc : X.calm = true := by rfl) (hv : bootBuiltins x = some (.builtin "all") := by decide +kernel) (hg : Gl X x := by rfl) (hn : x ≠ "__name__" := by decide) (hdb : (x == ("__debug__" : Str)) = false := by decide)
    (he : starEach (e :: es) X.env = (false, eval e X.env) :: starEach es X.env := by rfl) (hpl : (backTo pos (starEach es X.env)).any (·.1) = false := by rfl) :
    PD X K W Δ (.Call (.Name x p) (e :: es) [] pos) (tCB (rAll K) tA) (.v true true) (gCB hAll gA) := ⟨pe_callB (by have q := cr_all (X := X) hc; rw [h.hK] at q; exact q) hg hm hv h.pa hn hdb he hpl, h.hK, se_cb scl_all csc_all h.sa⟩
theorem x_any {x : Str} {p : Pos} (hm : X.mg x = none) (h : AD X K W Δ (e :: es) tA av fr gA) (hc : X.calm = true := by rfl) (hv : bootBuiltins x = some (.builtin "any") := by decide +kernel) (hg : Gl X x := by rfl) (hn : x ≠ "__name__" := by decide) (hdb : (x == ("__debug__" : Str)) = false := by decide)
    (he : starEach (e :: es) X.env = (false, eval e X.env) :: starEach es X.env := by rfl) (hpl : (backTo pos (starEach es X.env)).any (·.1) = false := by rfl) :
    PD X K W Δ (.Call (.Name x p) (e :: es) [] pos) (tCB (rAny K) tA) (.v true true) (gCB hAny gA) := ⟨pe_callB (by have q := cr_any (X := X) hc; rw [h.hK] at q; exact q) hg hm hv h.pa hn hdb he hpl, h.hK, se_cb scl_any csc_any h.sa⟩
theorem x_sum {x : Str} {p : Pos} (hm : X.mg x = none) (h : AD X K W Δ (e :: es) tA av fr gA) (hc : X.calm = true := by rfl) (hv : bootBuiltins x = some (.builtin "sum") := by decide +kernel) (hg : Gl X x := by rfl) (hn : x ≠ "__name__" := by decide) (hdb : (x == ("__debug__" : Str)) = false := by decide)
    (he : starEach (e :: es) X.env = (false, eval e X.env) :: starEach es X.env := by rfl) (hpl : (backTo pos (starEach es X.env)).any (·.1) = false := by rfl) :
    PD X K W Δ (.Call (.Name x p) (e :: es) [] pos) (tCB (rSum K) tA) (.v true true) (gCB hSum gA) := ⟨pe_callB (by have q := cr_sum (X := X) hc; rw [h.hK] at q; exact q) hg hm hv h.pa hn hdb he hpl, h.hK, se_cb scl_sum csc_sum h.sa⟩
end
end Sim
end T_SimC

section T_SimD
set_option Elab.async false
set_option linter.all false
set_option maxRecDepth 100000
/-! SimD: subscripts, slices, list + list, walks, targets, comprehensions. -/
namespace Sim
open PySem PySem.Spec L2
open PyProof.Rows hiding St

/-! ### lists that are laid anew -/
def cutD (xs : List Dt) (lo hi : Option Int) : List Dt := (xs.drop (HT.sIx xs.length 0 lo)).take (HT.sIx xs.length xs.length hi - HT.sIx xs.length 0 lo)
def hIx : Dt → Dt → O Dt := fun d e => match d, e with
  | .list ds, .int i => match atI ds i with
    | some z => .ok z
    | none => .bad
  | .tuple ds, .int i => match atI ds i with
    | some z => .ok z
    | none => .bad
  | .str z, .int i => if z.length ≤ 100000 then (match atI z.cps.toList i with
    | some c => .ok (.str ⟨#[c]⟩)
    | none => .bad) else .bad
  | _, _ => .bad
def hSl : Dt → Option Int → Option Int → O Dt := fun d lo hi => match d with
  | .list ds => .ok (.list (cutD ds lo hi))
  | _ => .bad
def hSlT : Dt → Option Int → Option Int → O Dt := fun d lo hi => match d with
  | .tuple ds => .ok (.tuple (cutD ds lo hi))
  | _ => .bad
def gSl (h : Dt → Option Int → Option Int → O Dt) (g : Gd) (gl gh : List Dt → O (Option Int)) : Gd := fun ρ => bnd (g ρ) fun d => bnd (gl ρ) fun lo => bnd (gh ρ) fun hi => h d lo hi
def gNoPart : List Dt → O (Option Int) := fun _ => .ok none
def gPart (g : Gd) : List Dt → O (Option Int) := fun ρ => bnd (g ρ) fun d => match d with
  | .int i => .ok (some i)
  | _ => .bad
def hCat : Dt → Dt → O Dt := fun d e => match d, e with
  | .list xs, .list ys => if xs.length + ys.length ≤ 100000 then .ok (.list (xs ++ ys)) else .bad
  | _, _ => .bad
def hRep : Dt → Dt → O Dt := fun d e => match d, e with
  | .list xs, .int k => if -(2 ^ 63) ≤ k ∧ k < 2 ^ 63 ∧ xs.length * k.toNat ≤ 100000 then .ok (.list (List.replicate k.toNat xs).flatten) else .bad
  | _, _ => .bad
def hListOf : Dt → O Dt := fun d => match d with
  | .list xs => .ok (.list xs)
  | .tuple xs => .ok (.list xs)
  | _ => .bad
def hTupOf : Dt → O Dt := fun d => match d with
  | .list xs => .ok (.tuple xs)
  | .tuple xs => .ok (.tuple xs)
  | _ => .bad
def isort (ns : List Int) : List Int := ns.mergeSort fun a b => decide (a ≤ b)
def hSorted : Dt → O Dt := fun d => match d with
  | .list xs => match allI xs with
    | some ns => .ok (.list ((isort ns).map .int))
    | none => .bad
  | _ => .bad
def one (h : Dt → O Dt) : List Dt → O Dt := fun ds => match ds with
  | [d] => h d
  | _ => .bad

section
variable {K : PySem.W.Frag} {W : Wt} {Δ : List Kd} {F : Addr → Prop} {H : Hp}

theorem RpA.ixN {vs : List V} {ds : List Dt} {i : Int} {z : Dt} (r : RpA K F H vs ds) (h : atI ds i = some z) : ∃ v, atI vs i = some v ∧ Rp K F H v z := by
  unfold atI at h ⊢
  rw [r.length]
  cases e : L2.ixN ds.length i with
  | none => rw [e] at h; cases h
  | some j =>
    rw [e] at h
    exact r.get' h
theorem Rp.sqt {v : V} {ds : List Dt} (h : Rp K F H v (.tuple ds)) : ∃ a xs, v = .ref a ∧ SqT K H a xs ∧ RpA K F H xs ds := by
  cases h with
  | tup h r => exact ⟨_, _, rfl, h, r⟩
theorem RpA.cut {vs : List V} {ds : List Dt} {lo hi : Option Int} (r : RpA K F H vs ds) : RpA K F H (cutV vs lo hi) (cutD ds lo hi) := by
  unfold cutV cutD
  rw [r.length]
  exact (r.drop _).take _

/-! ### x[i] -/
theorem se_ix {ta tb : TE} {ga gb : Gd} {av fr av' fr' : Bool} (ha : SE K W Δ ta (.v av fr) ga) (hb : SE K W Δ tb (.v av' fr') gb) : SE K W Δ (tOp (rIx K) ta tb) (.v av fr) (gOp hIx ga gb) := fun f ρ σ H Q R q => by
  refine ha f ρ σ H _ R ?_
  unfold gOp at q
  cases e1 : ga ρ with
  | bad => rw [e1] at q; exact q
  | ex z => rw [e1] at q; exact q
  | ok d =>
    rw [e1, bnd_ok] at q
    intro v H1 s1 x1
    refine hb f ρ σ H1 _ (R.mono s1) ?_
    cases e2 : gb ρ with
    | bad => rw [e2] at q; exact q
    | ex z => rw [e2] at q; exact fun H' s => q H' (s1.trans s)
    | ok d2 =>
      rw [e2, bnd_ok] at q
      intro v2 H2 s2 x2
      unfold hIx at q
      split at q
      · split at q
        · rename_i z hz
          obtain ⟨a, xs, rfl, hs, r⟩ := (x1.same s2).sql
          obtain ⟨w, hw, rw'⟩ := r.ixN hz
          rw [rpInt x2]
          exact .inl ⟨a, xs, _, w, rfl, rfl, hs, hw, q w H2 (s1.trans s2) rw'⟩
        · exact q.elim
      · split at q
        · rename_i z hz
          obtain ⟨a, xs, rfl, hs, r⟩ := (x1.same s2).sqt
          obtain ⟨w, hw, rw'⟩ := r.ixN hz
          rw [rpInt x2]
          exact .inr (.inl ⟨a, xs, _, w, rfl, rfl, hs, hw, q w H2 (s1.trans s2) rw'⟩)
        · exact q.elim
      · split at q
        · rename_i hl
          split at q
          · rename_i c hc
            rw [rpInt x2]
            cases x1
            exact .inr (.inr ⟨_, _, c, rfl, rfl, sz_le hl, hc, q _ H2 (s1.trans s2) (.str _)⟩)
          · exact q.elim
        · exact q.elim
      · exact q.elim
theorem se_ixO {ta tb : TE} {ga gb : Gd} {fr av' fr' : Bool} (ha : SE K W Δ ta (.o fr) ga) (hb : SE K W Δ tb (.v av' fr') gb) : SE K W Δ (tOp (rIx K) ta tb) (.v true fr) (gOp hIx ga gb) := fun f ρ σ H Q R q => by
  refine ha f ρ σ H _ R ?_
  unfold gOp at q
  cases e1 : ga ρ with
  | bad => rw [e1] at q; exact q
  | ex z => rw [e1] at q; exact q
  | ok d =>
    rw [e1, bnd_ok] at q
    intro p H1 vs ds ed s1 hp gp x1
    subst ed
    refine hb f ρ σ H1 _ (R.mono s1) ?_
    cases e2 : gb ρ with
    | bad => rw [e2] at q; exact q
    | ex z => rw [e2] at q; exact fun H' s => q H' (s1.trans s)
    | ok d2 =>
      rw [e2, bnd_ok] at q
      intro v2 H2 s2 x2
      unfold hIx at q
      cases d2 with
      | int i =>
        simp only at q
        cases hz : atI ds i with
        | some z =>
          rw [hz] at q
          obtain ⟨w, hw, rw'⟩ := (x1.same s2).ixN hz
          rw [rpInt x2]
          exact .inl ⟨p, vs, _, w, rfl, rfl, .inl (.inl (s2 _ _ hp)), hw, q w H2 (s1.trans s2) rw'⟩
        | none => rw [hz] at q; exact q.elim
      | _ => exact q.elim

/-! ### slices -/
abbrev TOp := L2.St → Hp → (Option Int → Hp → Prop) → Prop
def SO (K : PySem.W.Frag) (W : Wt) (Δ : List Kd) (to : TOp) (g : List Dt → O (Option Int)) : Prop := ∀ f ρ σ H Q, R K f Δ ρ σ H →
  (match g ρ with | .bad => False | .ex e => ∀ H', Same H H' → W e σ H' | .ok o => ∀ H', Same H H' → Q o H') → to σ H Q
theorem so_none : SO K W Δ tNoPart gNoPart := fun f ρ σ H Q R q => q H (Same.refl H)
theorem so_some {te : TE} {g : Gd} {av fr : Bool} (h : SE K W Δ te (.v av fr) g) : SO K W Δ (tPart te) (gPart g) := fun f ρ σ H Q R q => by
  refine h f ρ σ H _ R ?_
  unfold gPart at q
  cases e1 : g ρ with
  | bad => rw [e1] at q; exact q
  | ex z => rw [e1] at q; exact q
  | ok d =>
    rw [e1, bnd_ok] at q
    intro v H1 s1 x1
    cases d with
    | int i => rw [rpInt x1]; exact ⟨i, rfl, q H1 s1⟩
    | _ => exact q.elim
theorem se_sl {te : TE} {tl th : TOp} {g : Gd} {gl gh : List Dt → O (Option Int)} {fr : Bool} (h : SE K W Δ te (.v true fr) g) (h1 : SO K W Δ tl gl) (h2 : SO K W Δ th gh) : SE K W Δ (tSl (rSlL K) te tl th) (.new .l fr) (gSl hSl g gl gh) := fun f ρ σ H Q R q => by
  refine h f ρ σ H _ R ?_
  unfold gSl at q
  cases e1 : g ρ with
  | bad => rw [e1] at q; exact q
  | ex z => rw [e1] at q; exact q
  | ok d =>
    rw [e1, bnd_ok] at q
    intro v H1 s1 x1
    refine h1 f ρ σ H1 _ (R.mono s1) ?_
    cases e2 : gl ρ with
    | bad => rw [e2] at q; exact q
    | ex z => rw [e2] at q; exact fun H' s => q H' (s1.trans s)
    | ok lo =>
      rw [e2, bnd_ok] at q
      intro H2 s2
      refine h2 f ρ σ H2 _ ((R.mono s1).mono s2) ?_
      cases e3 : gh ρ with
      | bad => rw [e3] at q; exact q
      | ex z => rw [e3] at q; exact fun H' s => q H' ((s1.trans s2).trans s)
      | ok hi =>
        rw [e3, bnd_ok] at q
        intro H3 s3
        cases d with
        | list ds =>
          obtain ⟨a, xs, rfl, hs, r⟩ := (x1.same (s2.trans s3)).sql
          refine ⟨a, xs, rfl, hs, fun p np => ?_⟩
          have s123 := (s1.trans s2).trans s3
          exact q p _ (s123.free np) (s123.trans (same_upd np)) ⟨_, _, rfl, upd_same, (r.mono (same_upd np) fun a y z => ⟨y, fun e => z (e ▸ np)⟩).cut⟩
        | _ => exact q.elim
theorem se_slO {te : TE} {tl th : TOp} {g : Gd} {gl gh : List Dt → O (Option Int)} {fr : Bool} (h : SE K W Δ te (.o fr) g) (h1 : SO K W Δ tl gl) (h2 : SO K W Δ th gh) : SE K W Δ (tSl (rSlL K) te tl th) (.new .l fr) (gSl hSl g gl gh) := fun f ρ σ H Q R q => by
  refine h f ρ σ H _ R ?_
  unfold gSl at q
  cases e1 : g ρ with
  | bad => rw [e1] at q; exact q
  | ex z => rw [e1] at q; exact q
  | ok d =>
    rw [e1, bnd_ok] at q
    intro pp H1 vs ds ed s1 hp gp x1
    subst ed
    refine h1 f ρ σ H1 _ (R.mono s1) ?_
    cases e2 : gl ρ with
    | bad => rw [e2] at q; exact q
    | ex z => rw [e2] at q; exact fun H' s => q H' (s1.trans s)
    | ok lo =>
      rw [e2, bnd_ok] at q
      intro H2 s2
      refine h2 f ρ σ H2 _ ((R.mono s1).mono s2) ?_
      cases e3 : gh ρ with
      | bad => rw [e3] at q; exact q
      | ex z => rw [e3] at q; exact fun H' s => q H' ((s1.trans s2).trans s)
      | ok hi =>
        rw [e3, bnd_ok] at q
        intro H3 s3
        refine ⟨pp, vs, rfl, .inl (.inl (s3 _ _ (s2 _ _ hp))), fun p np => ?_⟩
        have s123 := (s1.trans s2).trans s3
        exact q p _ (s123.free np) (s123.trans (same_upd np)) ⟨_, _, rfl, upd_same, ((x1.same (s2.trans s3)).mono (same_upd np) fun a y z => ⟨y, fun e => z (e ▸ np)⟩).cut⟩
theorem cut_whole {α : Type} {n : Nat} {xs : List α} (hn : xs.length = n) {lo hi : Option Int} (h : HT.sIx n 0 lo = 0 ∧ HT.sIx n n hi = n) : (xs.drop (HT.sIx n 0 lo)).take (HT.sIx n n hi - HT.sIx n 0 lo) = xs := by
  rw [h.1, h.2, List.drop_zero, Nat.sub_zero]
  exact List.take_of_length_le (Nat.le_of_eq hn)
theorem se_slT {te : TE} {tl th : TOp} {g : Gd} {gl gh : List Dt → O (Option Int)} {av fr : Bool} (h : SE K W Δ te (.v av fr) g) (h1 : SO K W Δ tl gl) (h2 : SO K W Δ th gh) : SE K W Δ (tSl (rSlA K) te tl th) (.v av fr) (gSl hSlT g gl gh) := fun f ρ σ H Q R q => by
  refine h f ρ σ H _ R ?_
  unfold gSl at q
  cases e1 : g ρ with
  | bad => rw [e1] at q; exact q
  | ex z => rw [e1] at q; exact q
  | ok d =>
    rw [e1, bnd_ok] at q
    intro v H1 s1 x1
    refine h1 f ρ σ H1 _ (R.mono s1) ?_
    cases e2 : gl ρ with
    | bad => rw [e2] at q; exact q
    | ex z => rw [e2] at q; exact fun H' s => q H' (s1.trans s)
    | ok lo =>
      rw [e2, bnd_ok] at q
      intro H2 s2
      refine h2 f ρ σ H2 _ ((R.mono s1).mono s2) ?_
      cases e3 : gh ρ with
      | bad => rw [e3] at q; exact q
      | ex z => rw [e3] at q; exact fun H' s => q H' ((s1.trans s2).trans s)
      | ok hi =>
        rw [e3, bnd_ok] at q
        intro H3 s3
        cases d with
        | tuple ds =>
          obtain ⟨a, xs, rfl, hs, r⟩ := (x1.same (s2.trans s3)).sqt
          have s123 := (s1.trans s2).trans s3
          refine ⟨a, xs, rfl, hs, fun w => ?_, fun w p np => ?_⟩
          · refine q _ H3 s123 ?_
            have e : cutD ds lo hi = ds := by
              unfold cutD
              rw [← r.length]
              exact cut_whole (by rw [r.length]) w
            rw [e]
            exact .tup hs r
          · exact q _ _ (s123.trans (same_upd np)) (.tup (.inl (.inl upd_same)) (r.same (same_upd np)).cut)
        | _ => exact q.elim

/-! ### list + list, list * int, list(x), tuple(x), sorted -/
def rCatS (K : PySem.W.Frag) : R2 := fun x y H Q => ∃ l b xs zs, x = .ref l ∧ y = .ref b ∧ SqL K H l xs ∧ SqL K H b zs ∧ xs.length + zs.length ≤ sizeLine ∧ ∀ p, H p = none → Q (.ref p) (upd H p (.lst (xs ++ zs)))
theorem op_catS {X : Cx} : OpR X (binaryOp .Add) (rCatS X.K) := by
  intro pins s σ H x y v u Q I rx ry h
  obtain ⟨l, b, xs, zs, rfl, rfl, hH, hB, hz, q⟩ := h
  cases rx
  cases ry
  obtain ⟨its, r, ⟨⟨cls, dd, data, sl⟩, n, ho, hc, hd, hdt⟩, hl⟩ := I.list hH
  obtain ⟨its2, r2, ⟨⟨cls2, dd2, data2, sl2⟩, n2, ho2, hc2, hd2, hdt2⟩, hl2⟩ := I.list hB
  simp only at hc hdt hc2 hdt2
  subst hc hdt hc2 hdt2
  have ea : its.toArray ++ its2.toArray = (its ++ its2).toArray := by simp
  have e1 := r.length
  have e2 := r2.length
  refine concat_meets ⟨_, ho, rfl⟩ ⟨_, ho2, rfl⟩ noFill_list_add seq_list_add PySem.F.slot_list_add PySem.F.entry_list_add (PySem.F.args_list_add_2 _ _) (PyProof.Rows.list_addW l b its.toArray its2.toArray n n2 dd dd2 sl sl2 (by rw [List.size_toArray, List.size_toArray]; omega)) ⟨ho, ho2, ?_⟩
  rw [ea]
  exact ⟨.ref _, _, I.lnew (t' := s.toks) (r.append r2) (by rw [List.length_append]; omega), rfl, q _ I.fresh⟩
theorem se_cat {ta tb : TE} {ga gb : Gd} {fr fr' : Bool} (ha : SE K W Δ ta (.v true fr) ga) (hb : SE K W Δ tb (.v true fr') gb) : SE K W Δ (tOp (rCatS K) ta tb) (.new .l (fr && fr')) (gOp hCat ga gb) := fun f ρ σ H Q R q => by
  refine ha f ρ σ H _ R ?_
  unfold gOp at q
  cases e1 : ga ρ with
  | bad => rw [e1] at q; exact q
  | ex z => rw [e1] at q; exact q
  | ok d =>
    rw [e1, bnd_ok] at q
    intro v H1 s1 x1
    refine hb f ρ σ H1 _ (R.mono s1) ?_
    cases e2 : gb ρ with
    | bad => rw [e2] at q; exact q
    | ex z => rw [e2] at q; exact fun H' s => q H' (s1.trans s)
    | ok d2 =>
      rw [e2, bnd_ok] at q
      intro v2 H2 s2 x2
      unfold hCat at q
      split at q
      · split at q
        · rename_i hz
          obtain ⟨a, xs, rfl, hs, r⟩ := (x1.same s2).sql
          obtain ⟨b, ys, rfl, hs2, r2⟩ := x2.sql
          refine ⟨a, b, xs, ys, rfl, rfl, hs, hs2, sz_le (by rw [r.length, r2.length]; exact hz), fun p np => ?_⟩
          have s12 := s1.trans s2
          refine q p _ (s12.free np) (s12.trans (same_upd np)) ⟨_, _, rfl, upd_same, ?_⟩
          exact (r.mono (same_upd np) fun a y z => ⟨y.weak id (fun h => (Bool.and_eq_true_iff.mp h).1), fun e => z (e ▸ np)⟩).append
            (r2.mono (same_upd np) fun a y z => ⟨y.weak id (fun h => (Bool.and_eq_true_iff.mp h).2), fun e => z (e ▸ np)⟩)
        · exact q.elim
      · exact q.elim
theorem se_catO {ta tb : TE} {ga gb : Gd} {fr fr' : Bool} (ha : SE K W Δ ta (.o fr) ga) (hb : SE K W Δ tb (.v true fr') gb) : SE K W Δ (tOp (rCatS K) ta tb) (.new .l (fr && fr')) (gOp hCat ga gb) := fun f ρ σ H Q R q => by
  refine ha f ρ σ H _ R ?_
  unfold gOp at q
  cases e1 : ga ρ with
  | bad => rw [e1] at q; exact q
  | ex z => rw [e1] at q; exact q
  | ok d =>
    rw [e1, bnd_ok] at q
    intro pp H1 vs ds ed s1 hp gp x1
    subst ed
    refine hb f ρ σ H1 _ (R.mono s1) ?_
    cases e2 : gb ρ with
    | bad => rw [e2] at q; exact q
    | ex z => rw [e2] at q; exact fun H' s => q H' (s1.trans s)
    | ok d2 =>
      rw [e2, bnd_ok] at q
      intro v2 H2 s2 x2
      cases d2 with
      | list es =>
        unfold hCat at q
        simp only at q
        by_cases hz : ds.length + es.length ≤ 100000
        · rw [if_pos hz] at q
          obtain ⟨b, ys, rfl, hs2, r2⟩ := x2.sql
          have r := x1.same s2
          refine ⟨pp, b, vs, ys, rfl, rfl, .inl (.inl (s2 _ _ hp)), hs2, sz_le (by rw [r.length, r2.length]; exact hz), fun p np => ?_⟩
          have s12 := s1.trans s2
          refine q p _ (s12.free np) (s12.trans (same_upd np)) ⟨_, _, rfl, upd_same, ?_⟩
          exact (r.mono (same_upd np) fun a y z => ⟨y.weak id (fun h => (Bool.and_eq_true_iff.mp h).1), fun e => z (e ▸ np)⟩).append
            (r2.mono (same_upd np) fun a y z => ⟨y.weak id (fun h => (Bool.and_eq_true_iff.mp h).2), fun e => z (e ▸ np)⟩)
        · rw [if_neg hz] at q
          exact q.elim
      | _ => exact q.elim
theorem se_rep {ta tb : TE} {ga gb : Gd} {fr av' fr' : Bool} (ha : SE K W Δ ta (.new .l fr) ga) (hb : SE K W Δ tb (.v av' fr') gb) : SE K W Δ (tOp rRep ta tb) (.new .l fr) (gOp hRep ga gb) := fun f ρ σ H Q R q => by
  refine ha f ρ σ H _ R ?_
  unfold gOp at q
  cases e1 : ga ρ with
  | bad => rw [e1] at q; exact q
  | ex z => rw [e1] at q; exact q
  | ok d =>
    rw [e1, bnd_ok] at q
    intro pp H1 npp s1 x1
    obtain ⟨vs, ds, ed, hp, x1⟩ := x1
    subst ed
    refine hb f ρ σ H1 _ (R.mono s1) ?_
    cases e2 : gb ρ with
    | bad => rw [e2] at q; exact q
    | ex z => rw [e2] at q; exact fun H' s => q H' (s1.trans s)
    | ok d2 =>
      rw [e2, bnd_ok] at q
      intro v2 H2 s2 x2
      cases d2 with
      | int k =>
        unfold hRep at q
        simp only at q
        by_cases hz : -(2 ^ 63) ≤ k ∧ k < 2 ^ 63 ∧ ds.length * k.toNat ≤ 100000
        · rw [if_pos hz] at q
          have r := x1.same s2
          rw [rpInt x2]
          refine ⟨pp, k, vs, rfl, rfl, s2 _ _ hp, hz.1, hz.2.1, sz_le (by rw [r.length]; exact hz.2.2), fun p np => ?_⟩
          have s12 := s1.trans s2
          exact q p _ (s12.free np) (s12.trans (same_upd np)) ⟨_, _, rfl, upd_same, (r.mono (same_upd np) fun a y z => ⟨y.1, fun e => z (e ▸ np)⟩).flat _⟩
        · rw [if_neg hz] at q
          exact q.elim
      | _ => exact q.elim
theorem one_eq {h : Dt → O Dt} {ds : List Dt} : (∃ d, ds = [d] ∧ one h ds = h d) ∨ one h ds = .bad := by
  match ds with
  | [] => exact .inr rfl
  | [d] => exact .inl ⟨d, rfl, rfl⟩
  | _ :: _ :: _ => exact .inr rfl
/-- a new list of what one argument holds -/
def rListOf (K : PySem.W.Frag) : List V → Hp → VK → Prop := fun xs H Q => ∃ p ys, xs = [.ref p] ∧ (SqL K H p ys ∨ SqT K H p ys) ∧ ∀ l, H l = none → Q (.ref l) (upd H l (.lst ys))
theorem se_listOf {tA : TA} {gA : List Dt → O (List Dt)} {fr : Bool} (ha : SA K W Δ tA true fr gA) : SE K W Δ (tCB (rListOf K) tA) (.new .l fr) (gCB (one hListOf) gA) := fun f ρ σ H Q R q => by
  refine ha f ρ σ H _ R ?_
  unfold gCB at q
  cases e1 : gA ρ with
  | bad => rw [e1] at q; exact q
  | ex z => rw [e1] at q; exact q
  | ok ds =>
    rw [e1, bnd_ok] at q
    intro vs H1 s1 x1
    rcases one_eq (h := hListOf) (ds := ds) with ⟨d, rfl, e⟩ | e
    · rw [e] at q
      cases x1 with
      | cons x1 xr =>
        cases xr
        cases d with
        | list es =>
          obtain ⟨a, xs, rfl, hs, r⟩ := x1.sql
          exact ⟨a, xs, rfl, .inl hs, fun l nl => q l _ (s1.free nl) (s1.trans (same_upd nl)) ⟨_, _, rfl, upd_same, r.mono (same_upd nl) fun a y z => ⟨y, fun e => z (e ▸ nl)⟩⟩⟩
        | tuple es =>
          obtain ⟨a, xs, rfl, hs, r⟩ := x1.sqt
          exact ⟨a, xs, rfl, .inr hs, fun l nl => q l _ (s1.free nl) (s1.trans (same_upd nl)) ⟨_, _, rfl, upd_same, r.mono (same_upd nl) fun a y z => ⟨y, fun e => z (e ▸ nl)⟩⟩⟩
        | _ => exact q.elim
    · rw [e] at q
      exact q.elim
/-- list(own) -/
theorem se_listOwn {te : TE} {g : Gd} {fr : Bool} (ha : SE K W Δ te (.o fr) g) : SE K W Δ (tCB (rListOf K) (tCons te tNil)) (.new .l fr) (gCB (one hListOf) (gCons g gNil)) := fun f ρ σ H Q R q => by
  refine ha f ρ σ H _ R ?_
  unfold gCB gCons gNil at q
  cases e1 : g ρ with
  | bad => rw [e1] at q; exact q
  | ex z => rw [e1] at q; exact q
  | ok d =>
    rw [e1, bnd_ok, bnd_ok, bnd_ok] at q
    intro p H1 vs ds ed s1 hp gp x1
    subst ed
    exact ⟨p, vs, rfl, .inl (.inl (.inl hp)), fun l nl => q l _ (s1.free nl) (s1.trans (same_upd nl)) ⟨_, _, rfl, upd_same, x1.mono (same_upd nl) fun a y z => ⟨y, fun e => z (e ▸ nl)⟩⟩⟩
theorem se_tupOf {tA : TA} {gA : List Dt → O (List Dt)} {av fr : Bool} (ha : SA K W Δ tA av fr gA) : SE K W Δ (tCB (fun xs H Q => ∃ p ys, xs = [.ref p] ∧ ((SqL K H p ys ∧ ∀ l, H l = none → Q (.ref l) (upd H l (.tup ys))) ∨ (SqT K H p ys ∧ Q (.ref p) H))) tA) (.v av fr) (gCB (one hTupOf) gA) := fun f ρ σ H Q R q => by
  refine ha f ρ σ H _ R ?_
  unfold gCB at q
  cases e1 : gA ρ with
  | bad => rw [e1] at q; exact q
  | ex z => rw [e1] at q; exact q
  | ok ds =>
    rw [e1, bnd_ok] at q
    intro vs H1 s1 x1
    rcases one_eq (h := hTupOf) (ds := ds) with ⟨d, rfl, e⟩ | e
    · rw [e] at q
      cases x1 with
      | cons x1 xr =>
        cases xr
        cases d with
        | list es =>
          obtain ⟨a, xs, rfl, hs, r⟩ := x1.sql
          exact ⟨a, xs, rfl, .inl ⟨hs, fun l nl => q _ _ (s1.trans (same_upd nl)) (.tup (.inl (.inl upd_same)) (r.same (same_upd nl)))⟩⟩
        | tuple es =>
          obtain ⟨a, xs, rfl, hs, r⟩ := x1.sqt
          exact ⟨a, xs, rfl, .inr ⟨hs, q _ _ s1 (.tup hs r)⟩⟩
        | _ => exact q.elim
    · rw [e] at q
      exact q.elim
theorem isort_perm (ns : List Int) : (isort ns).Perm ns := List.mergeSort_perm _ _
theorem isort_sorted (ns : List Int) : (isort ns).Pairwise (· ≤ ·) := by
  have h := List.pairwise_mergeSort (le := fun (a b : Int) => decide (a ≤ b)) (fun a b c h1 h2 => by
    rw [decide_eq_true_eq] at *; omega) (fun a b => by
    rw [Bool.or_eq_true, decide_eq_true_eq, decide_eq_true_eq]; omega) ns
  exact h.imp fun h => of_decide_eq_true h
theorem sorted_unique : ∀ {a b : List Int}, a.Perm b → a.Pairwise (· ≤ ·) → b.Pairwise (· ≤ ·) → a = b
  | [], b, p, _, _ => (List.Perm.nil_eq p)
  | x :: a, [], p, _, _ => absurd p.length_eq (by simp)
  | x :: a, y :: b, p, ha, hb => by
    have h1 : y ≤ x := by
      have : x ∈ y :: b := p.subset List.mem_cons_self
      rcases List.mem_cons.mp this with e | h
      · omega
      · exact (List.pairwise_cons.mp hb).1 x h
    have h2 : x ≤ y := by
      have : y ∈ x :: a := p.symm.subset List.mem_cons_self
      rcases List.mem_cons.mp this with e | h
      · omega
      · exact (List.pairwise_cons.mp ha).1 y h
    have e : x = y := by omega
    subst e
    rw [sorted_unique (List.Perm.cons_inv p) (List.pairwise_cons.mp ha).2 (List.pairwise_cons.mp hb).2]
theorem rpA_ints {F : Addr → Prop} {H : Hp} : ∀ ns : List Int, RpA K F H (ns.map V.int) (ns.map PyData.int)
  | [] => .nil
  | n :: ns => .cons (.int n) (rpA_ints ns)
theorem se_sorted {tA : TA} {gA : List Dt → O (List Dt)} {av fr : Bool} (ha : SA K W Δ tA av fr gA) : SE K W Δ (tCB (rSortedI K) tA) (.new .l true) (gCB (one hSorted) gA) := fun f ρ σ H Q R q => by
  refine ha f ρ σ H _ R ?_
  unfold gCB at q
  cases e1 : gA ρ with
  | bad => rw [e1] at q; exact q
  | ex z => rw [e1] at q; exact q
  | ok ds =>
    rw [e1, bnd_ok] at q
    intro vs H1 s1 x1
    rcases one_eq (h := hSorted) (ds := ds) with ⟨d, rfl, e⟩ | e
    · rw [e] at q
      cases x1 with
      | cons x1 xr =>
        cases xr
        cases d with
        | list es =>
          unfold hSorted at q
          simp only at q
          cases ea : allI es with
          | none => rw [ea] at q; exact q.elim
          | some ns =>
            rw [ea] at q
            obtain ⟨a, xs, rfl, hs, r⟩ := x1.sql
            rw [rp_ints r ea] at hs
            refine ⟨a, ns, rfl, hs, fun ns' l p1 p2 nl => ?_⟩
            have e2 : ns' = isort ns := sorted_unique (p1.trans (isort_perm ns).symm) p2 (isort_sorted ns)
            subst e2
            exact q l _ (s1.free nl) (s1.trans (same_upd nl)) ⟨_, _, rfl, upd_same, rpA_ints _⟩
        | _ => exact q.elim
    · rw [e] at q
      exact q.elim
end

/-! ### what is walked -/
def Sc (K : PySem.W.Frag) (J : It) (pf : Option (Addr × HO)) (vs : List V) (es ds : List Dt) : Prop :=
  Walk J ds.length (fun H => (∀ q, pf = some q → H q.1 = some q.2) ∧ ∃ F, RpA K F H vs es) (fun i H x H' => Same H H' ∧ ∀ F, RpA K F H vs es → ∃ e, ds[i]? = some e ∧ Rp K F H' x e)
def SI (K : PySem.W.Frag) (W : Wt) (Δ : List Kd) (wi : TI) (b fr : Bool) (g : List Dt → O (List Dt)) : Prop := ∀ f ρ σ H Rk, R K f Δ ρ σ H →
  (match g ρ with
    | .bad => False
    | .ex e => ∀ H', Same H H' → W e σ H'
    | .ok ds => ∀ J H' pf vs es, Same H H' → (b = false → pf = none) → (∀ q, pf = some q → H' q.1 = some q.2) → RpA K (FM f Δ σ true fr) H' vs es → Sc K J pf vs es ds → Rk J H') → wi σ H Rk
structure ID (X : Cx) (K : PySem.W.Frag) (W : Wt) (Δ : List Kd) (tg iter : Expr) (wi : TI) (b fr : Bool) (g : List Dt → O (List Dt)) : Prop where
  pi : PI X tg iter wi
  hK : X.K = K
  si : SI K W Δ wi b fr g

def gSeq (g : Gd) : List Dt → O (List Dt) := fun ρ => bnd (g ρ) fun d => match d with
  | .list ds => .ok ds
  | .tuple ds => .ok ds
  | _ => .bad
def rangeD (lo hi : Int) : List Dt := (List.range (hi - lo).toNat).map fun (i : Nat) => .int (lo + (i : Int))
def rng1 : List Dt → Option (Int × Int)
  | [.int j] => if -(2 ^ 62) ≤ j ∧ j < 2 ^ 62 then some (0, j) else none
  | _ => none
def rng2 : List Dt → Option (Int × Int)
  | [.int i, .int j] => if -(2 ^ 62) ≤ i ∧ i < 2 ^ 62 ∧ -(2 ^ 62) ≤ j ∧ j < 2 ^ 62 then some (i, j) else none
  | _ => none
def gRng1 (g : List Dt → O (List Dt)) : List Dt → O (List Dt) := fun ρ => bnd (g ρ) fun ds => match rng1 ds with
  | some p => .ok (rangeD p.1 p.2)
  | none => .bad
def gRng2 (g : List Dt → O (List Dt)) : List Dt → O (List Dt) := fun ρ => bnd (g ρ) fun ds => match rng2 ds with
  | some p => .ok (rangeD p.1 p.2)
  | none => .bad

def iSeq (K : PySem.W.Frag) (tl : TE) : TI := fun σ H R => tl σ H fun x H1 => ∃ a, x = .ref a ∧ (((∃ xs, SqL K H1 a xs) ∧ R (Itl K a) H1) ∨ ((∃ xs, SqT K H1 a xs) ∧ R (Itt K a) H1))
theorem pi_seq {X : Cx} {tg l : Expr} {tl : TE} (hl : PE X l tl) : PI X tg l (iSeq X.K tl) := by
  refine ⟨fun pins s σ H R I h => ?_⟩
  refine thn (hl.run pins s σ H _ I h) fun v s1 ⟨x, H1, I1, r1, q1⟩ => ?_
  obtain ⟨a, e, q⟩ := q1
  subst e
  cases r1
  rcases q with ⟨⟨xs, hq⟩, q⟩ | ⟨⟨xs, hq⟩, q⟩
  · obtain ⟨its, rv, p, hz⟩ := I1.list hq
    refine wpAny_pyIter_list p.isList ?_
    refine ⟨s1.heap.objs.size, [s1.heap.objs.size], _, _, H1, rfl, I1.kept (t' := s1.toks) fun b o e => Heap.get?_push_of_some _ e, turn_list a _, ⟨_, Heap.get?_push_size _ rfl, rfl, rfl⟩, fun b hb => ?_, q⟩
    have e : b = s1.heap.objs.size := by simpa using hb
    subst e
    exact I1.fpOk (Nat.le_refl _) (I1.hok.fresh (Nat.le_refl _))
  · obtain ⟨its, rv, p, hz⟩ := I1.tuple hq
    refine wpAny_pyIter_tuple (show s1.heap.IsTuple a its.toArray from p) ?_
    refine ⟨s1.heap.objs.size, [s1.heap.objs.size], _, _, H1, rfl, I1.kept (t' := s1.toks) fun b o e => Heap.get?_push_of_some _ e, turn_tuple a _, ⟨_, Heap.get?_push_size _ rfl, rfl, rfl⟩, fun b hb => ?_, q⟩
    have e : b = s1.heap.objs.size := by simpa using hb
    subst e
    exact I1.fpOk (Nat.le_refl _) (I1.hok.fresh (Nat.le_refl _))

section
variable {K : PySem.W.Frag} {W : Wt} {Δ : List Kd}
theorem sc_list {a : Addr} {ds : List Dt} : Sc K (Itl K a) none [.ref a] [.list ds] ds where
  goes := fun i H hi ⟨_, F, r⟩ => by
    cases r with
    | cons h _ =>
      obtain ⟨b, xs, e, hs, r⟩ := h.sql
      cases e
      have hx : i < xs.length := by rw [r.length]; exact hi
      exact ⟨xs, xs[i], hs, List.getElem?_eq_getElem hx⟩
  stops := fun H ⟨_, F, r⟩ => by
    cases r with
    | cons h _ =>
      obtain ⟨b, xs, e, hs, r⟩ := h.sql
      cases e
      exact ⟨xs, hs, Nat.le_of_eq r.length⟩
  yields := fun i H x H' hi _ y => by
    obtain ⟨e, y⟩ := y
    subst e
    refine ⟨Same.refl _, fun F r => ?_⟩
    cases r with
    | cons h _ =>
      obtain ⟨b, xs, e, hs, r⟩ := h.sql
      cases e
      exact r.get (y xs hs)
theorem sc_tup {a : Addr} {ds : List Dt} : Sc K (Itt K a) none [.ref a] [.tuple ds] ds where
  goes := fun i H hi ⟨_, F, r⟩ => by
    cases r with
    | cons h _ =>
      obtain ⟨b, xs, e, hs, r⟩ := h.sqt
      cases e
      have hx : i < xs.length := by rw [r.length]; exact hi
      exact ⟨xs, xs[i], hs, List.getElem?_eq_getElem hx⟩
  stops := fun H ⟨_, F, r⟩ => by
    cases r with
    | cons h _ =>
      obtain ⟨b, xs, e, hs, r⟩ := h.sqt
      cases e
      exact ⟨xs, hs, Nat.le_of_eq r.length⟩
  yields := fun i H x H' hi _ y => by
    obtain ⟨e, y⟩ := y
    subst e
    refine ⟨Same.refl _, fun F r => ?_⟩
    cases r with
    | cons h _ =>
      obtain ⟨b, xs, e, hs, r⟩ := h.sqt
      cases e
      exact r.get (y xs hs)
theorem sc_own {a : Addr} {vs : List V} {ds : List Dt} (hl : vs.length = ds.length) : Sc K (Itl K a) (some (a, .lst vs)) vs ds ds where
  goes := fun i H hi ⟨h, F, r⟩ => by
    have hx : i < vs.length := by rw [r.length]; exact hi
    exact ⟨vs, vs[i], .inl (.inl (h _ rfl)), List.getElem?_eq_getElem hx⟩
  stops := fun H ⟨h, F, r⟩ => ⟨vs, .inl (.inl (h _ rfl)), Nat.le_of_eq hl⟩
  yields := fun i H x H' hi ⟨h, _⟩ y => by
    obtain ⟨e, y⟩ := y
    subst e
    exact ⟨Same.refl _, fun F r => r.get (y vs (.inl (.inl (h _ rfl))))⟩
theorem rangeD_len (lo hi : Int) : (rangeD lo hi).length = (hi - lo).toNat := by unfold rangeD; simp
theorem sc_range {lo hi : Int} : Sc K (Itr lo (hi - lo).toNat) none [] [] (rangeD lo hi) where
  goes := fun i H hi' _ => by rw [rangeD_len] at hi'; exact hi'
  stops := fun H _ => by rw [rangeD_len]; exact Nat.le_refl _
  yields := fun i H x H' hi' _ y => by
    obtain ⟨e, y⟩ := y
    subst e y
    refine ⟨Same.refl _, fun F r => ⟨_, ?_, .int _⟩⟩
    rw [rangeD_len] at hi'
    unfold rangeD
    rw [List.getElem?_map, List.getElem?_range hi']
    rfl
theorem si_seq {te : TE} {g : Gd} {fr : Bool} (h : SE K W Δ te (.v true fr) g) : SI K W Δ (iSeq K te) false fr (gSeq g) := fun f ρ σ H Rk R q => by
  refine h f ρ σ H _ R ?_
  unfold gSeq at q
  cases e1 : g ρ with
  | bad => rw [e1] at q; exact q
  | ex z => rw [e1] at q; exact q
  | ok d =>
    rw [e1, bnd_ok] at q
    intro v H1 s1 x1
    cases d with
    | list ds =>
      obtain ⟨a, xs, rfl, hs, r⟩ := x1.sql
      exact ⟨a, rfl, .inl ⟨⟨xs, hs⟩, q _ H1 none [.ref a] [.list ds] s1 (fun _ => rfl) (fun _ e => nomatch e) (.cons x1 .nil) sc_list⟩⟩
    | tuple ds =>
      obtain ⟨a, xs, rfl, hs, r⟩ := x1.sqt
      exact ⟨a, rfl, .inr ⟨⟨xs, hs⟩, q _ H1 none [.ref a] [.tuple ds] s1 (fun _ => rfl) (fun _ e => nomatch e) (.cons x1 .nil) sc_tup⟩⟩
    | _ => exact q.elim
theorem si_own {te : TE} {g : Gd} {fr : Bool} (h : SE K W Δ te (.o fr) g) : SI K W Δ (iSeq K te) true fr (gSeq g) := fun f ρ σ H Rk R q => by
  refine h f ρ σ H _ R ?_
  unfold gSeq at q
  cases e1 : g ρ with
  | bad => rw [e1] at q; exact q
  | ex z => rw [e1] at q; exact q
  | ok d =>
    rw [e1, bnd_ok] at q
    intro p H1 vs ds ed s1 hp gp x1
    subst ed
    exact ⟨p, rfl, .inl ⟨⟨vs, .inl (.inl hp)⟩, q _ H1 (some (p, .lst vs)) vs ds s1 (fun e => nomatch e) (fun _ e => by cases e; exact hp) x1 (sc_own x1.length)⟩⟩
theorem si_rng1 {tA : TA} {gA : List Dt → O (List Dt)} {av fr : Bool} (h : SA K W Δ tA av fr gA) : SI K W Δ (iRng1 tA) false true (gRng1 gA) := fun f ρ σ H Rk R q => by
  refine h f ρ σ H _ R ?_
  unfold gRng1 at q
  cases e1 : gA ρ with
  | bad => rw [e1] at q; exact q
  | ex z => rw [e1] at q; exact q
  | ok ds =>
    rw [e1, bnd_ok] at q
    intro vs H1 s1 x1
    cases er : rng1 ds with
    | none => rw [er] at q; exact q.elim
    | some p =>
      rw [er] at q
      unfold rng1 at er
      split at er
      · split at er
        · rename_i j c
          cases er
          cases x1 with
          | cons x1 xr =>
            cases xr
            rw [rpInt x1]
            refine ⟨j, rfl, c.1, c.2, ?_⟩
            have w := q (Itr 0 (j - 0).toNat) H1 none [] [] s1 (fun _ => rfl) (fun _ e => nomatch e) .nil sc_range
            rw [Int.sub_zero] at w
            exact w
        · cases er
      · cases er

theorem si_rng2 {tA : TA} {gA : List Dt → O (List Dt)} {av fr : Bool} (h : SA K W Δ tA av fr gA) : SI K W Δ (iRng2 tA) false true (gRng2 gA) := fun f ρ σ H Rk R q => by
  refine h f ρ σ H _ R ?_
  unfold gRng2 at q
  cases e1 : gA ρ with
  | bad => rw [e1] at q; exact q
  | ex z => rw [e1] at q; exact q
  | ok ds =>
    rw [e1, bnd_ok] at q
    intro vs H1 s1 x1
    cases er : rng2 ds with
    | none => rw [er] at q; exact q.elim
    | some p =>
      rw [er] at q
      unfold rng2 at er
      split at er
      · split at er
        · rename_i i j c
          cases er
          cases x1 with
          | cons x1 xr =>
            cases xr with
            | cons x2 xr =>
              cases xr
              rw [rpInt x1, rpInt x2]
              exact ⟨i, j, rfl, c, q (Itr i (j - i).toNat) H1 none [] [] s1 (fun _ => rfl) (fun _ e => nomatch e) .nil sc_range⟩
        · cases er
      · cases er

end
end Sim
end T_SimD

section T_SimE
set_option Elab.async false
set_option linter.all false
set_option maxRecDepth 100000
/-! SimE: targets, comprehensions, calls. -/
namespace Sim
open PySem PySem.Spec L2
open PyProof.Rows hiding St

/-! ### weaker kinds -/
def bLe (a b : Bool) : Bool := !b || a
def kLe : Kd → Kd → Bool
  | _, .no => true
  | .im a, .im b => bLe a b
  | .own .l a, .im b => bLe a b
  | .own .l a, .own .l b => bLe a b
  | .own .dk a, .own .dk b => bLe a b
  | .own .dt a, .own .dt b => bLe a b
  | .own .la a, .own .la b => bLe a b
  | .own .ka a, .own .ka b => bLe a b
  | _, _ => false
def leA : List Kd → List Kd → Bool
  | [], [] => true
  | k :: ks, l :: ls => kLe k l && leA ks ls
  | _, _ => false
theorem bLe_imp {a b : Bool} (h : bLe a b = true) : b = true → a = true := fun e => by subst e; cases a; cases h; rfl
theorem leA_len : ∀ {Δ Δ' : List Kd}, leA Δ Δ' = true → Δ.length = Δ'.length
  | [], [], _ => rfl
  | [], _ :: _, h => by cases h
  | _ :: _, [], h => by cases h
  | k :: ks, l :: ls, h => by
    unfold leA at h
    rw [Bool.and_eq_true] at h
    rw [List.length_cons, List.length_cons, leA_len h.2]
theorem leA_get : ∀ {Δ Δ' : List Kd}, leA Δ Δ' = true → ∀ {i : Nat} {k' : Kd}, Δ'[i]? = some k' → ∃ k, Δ[i]? = some k ∧ kLe k k' = true
  | [], [], _, i, k', h => by simp at h
  | [], _ :: _, h, _, _, _ => by cases h
  | _ :: _, [], h, _, _, _ => by cases h
  | k :: ks, l :: ls, h, 0, k', e => by
    unfold leA at h
    rw [Bool.and_eq_true] at h
    simp at e; subst e
    exact ⟨k, rfl, h.1⟩
  | k :: ks, l :: ls, h, i + 1, k', e => by
    unfold leA at h
    rw [Bool.and_eq_true] at h
    obtain ⟨q, h1, h2⟩ := leA_get h.2 (i := i) (k' := k') (by simpa using e)
    exact ⟨q, by simpa using h1, h2⟩
theorem kLe_own {k : Kd} {c : Ct} {fr : Bool} (h : kLe k (.own c fr) = true) : ∃ fr', k = .own c fr' ∧ (fr = true → fr' = true) := by
  cases k with
  | no => cases c <;> cases h
  | im a => cases c <;> cases h
  | own c' a => cases c' <;> cases c <;> first | (cases h; done) | exact ⟨a, rfl, bLe_imp h⟩
theorem kLe_im {k : Kd} {fr : Bool} (h : kLe k (.im fr) = true) : (∃ fr', k = .im fr' ∧ (fr = true → fr' = true)) ∨ ∃ fr', k = .own .l fr' ∧ (fr = true → fr' = true) := by
  cases k with
  | no => cases h
  | im a => exact .inl ⟨a, rfl, bLe_imp h⟩
  | own c' a => cases c' <;> first | (cases h; done) | exact .inr ⟨a, rfl, bLe_imp h⟩

section
variable {K : PySem.W.Frag} {f : Fm} {Δ Δ' : List Kd} {ρ : List Dt} {σ σ' : L2.St} {H : Hp}
theorem R.weak (r : R K f Δ ρ σ H) (h : leA Δ Δ' = true) : R K f Δ' ρ σ H := by
  have ow' : ∀ a, Ow Δ' σ a → Ow Δ σ a := fun a ⟨i, c, fr, h1, h2⟩ => by
    obtain ⟨k, e, hk⟩ := leA_get h h1
    obtain ⟨fr', rfl, _⟩ := kLe_own hk
    exact ⟨i, c, fr', e, h2⟩
  have key : ∀ {fr fr' : Bool} {v : V} {d : Dt}, (fr' = true → fr = true) → Rp K (FM f Δ σ true fr) H v d → Rp K (FM f Δ' σ true fr') H v d := fun hf h =>
    h.weak fun a fa => ⟨fun _ => ⟨fun z => (fa.1 rfl).1 (ow' a z), (fa.1 rfl).2⟩, fun e => fa.2 (hf e)⟩
  refine ⟨r.ext, r.g0, by rw [r.lσ, leA_len h], by rw [r.lρ, leA_len h], ?_, fun a ha => ⟨(r.pin a ha).1, fun z => (r.pin a ha).2 (ow' a z)⟩, fun g hg => (r.gh g hg).map fun _ _ x => key id x, fun i fr h' => ?_, fun i c fr h' => ?_, fun i c fr h' ha => ?_⟩
  · intro i j ci fi cj fj p h1 h2 h3 h4
    obtain ⟨k, e, hk⟩ := leA_get h h1
    obtain ⟨fr', rfl, _⟩ := kLe_own hk
    obtain ⟨k2, e2, hk2⟩ := leA_get h h2
    obtain ⟨fr2, rfl, _⟩ := kLe_own hk2
    exact r.inj i j _ _ _ _ p e e2 h3 h4
  · obtain ⟨k, e, hk⟩ := leA_get h h'
    rcases kLe_im hk with ⟨fr', rfl, hf⟩ | ⟨fr', rfl, hf⟩
    · obtain ⟨v, d, h1, h2, h3⟩ := r.im i fr' e
      exact ⟨v, d, h1, h2, key hf h3⟩
    · obtain ⟨p, d, h1, h2, h3, vs, ds, ed, hp, h4⟩ := r.ow i .l fr' e
      subst ed
      refine ⟨.ref p, _, h1, h2, .lst hp ⟨fun _ => ⟨fun z => ?_, fun z => ?_⟩, fun _ => r.g0 p h3⟩ (h4.map fun _ _ x => key hf x)⟩
      · obtain ⟨j, c, frj, g1, g2⟩ := z
        obtain ⟨k2, e2, hk2⟩ := leA_get h g1
        obtain ⟨fr2, rfl, _⟩ := kLe_own hk2
        have ij := r.inj i j _ _ _ _ p e e2 h1 g2
        subst ij
        rw [h'] at g1
        cases g1
      · exact (r.pin p z).2 ⟨i, .l, fr', e, h1⟩
  · obtain ⟨k, e, hk⟩ := leA_get h h'
    obtain ⟨fr', rfl, hf⟩ := kLe_own hk
    obtain ⟨p, d, h1, h2, h3, h4⟩ := r.ow i c fr' e
    exact ⟨p, d, h1, h2, h3, h4.map (fun o e => e) fun _ _ x => key hf x⟩
  · obtain ⟨k, e, hk⟩ := leA_get h h'
    obtain ⟨fr', rfl, hf⟩ := kLe_own hk
    exact r.ar i c fr' e ha

/-! ### targets -/
structure TgOk (K : PySem.W.Frag) (f : Fm) (Δ Δ' : List Kd) (ρ' : List Dt) (σ σ' : L2.St) (H : Hp) (sl : List Nat) : Prop where
  r : R K f Δ' ρ' σ' H
  keep : ∀ i, i ∉ sl → Δ'[i]? = Δ[i]? ∧ σ'[i]? = σ[i]?
  im : ∀ i, i ∈ sl → ∃ fr, Δ'[i]? = some (.im fr)
  len : Δ'.length = Δ.length
theorem TgOk.ow {ρ' : List Dt} {sl : List Nat} (t : TgOk K f Δ Δ' ρ' σ σ' H sl) {a : Addr} (h : Ow Δ' σ' a) : Ow Δ σ a := by
  obtain ⟨i, c, fr, h1, h2⟩ := h
  by_cases z : i ∈ sl
  · obtain ⟨fr', e⟩ := t.im i z
    rw [e] at h1; cases h1
  · obtain ⟨e1, e2⟩ := t.keep i z
    exact ⟨i, c, fr, e1 ▸ h1, e2 ▸ h2⟩
theorem TgOk.ow' {ρ' : List Dt} {sl : List Nat} (t : TgOk K f Δ Δ' ρ' σ σ' H sl) (no : ∀ i ∈ sl, ∀ c fr, Δ[i]? ≠ some (.own c fr)) {a : Addr} (h : Ow Δ σ a) : Ow Δ' σ' a := by
  obtain ⟨i, c, fr, h1, h2⟩ := h
  by_cases z : i ∈ sl
  · exact absurd h1 (no i z c fr)
  · obtain ⟨e1, e2⟩ := t.keep i z
    exact ⟨i, c, fr, e1 ▸ h1, e2 ▸ h2⟩
theorem TgOk.fm {ρ' : List Dt} {sl : List Nat} (t : TgOk K f Δ Δ' ρ' σ σ' H sl) {av fr : Bool} {a : Addr} (h : FM f Δ σ av fr a) : FM f Δ' σ' av fr a := ⟨fun e => ⟨fun z => (h.1 e).1 (t.ow z), (h.1 e).2⟩, h.2⟩
theorem TgOk.fm' {ρ' : List Dt} {sl : List Nat} (t : TgOk K f Δ Δ' ρ' σ σ' H sl) (no : ∀ i ∈ sl, ∀ c fr, Δ[i]? ≠ some (.own c fr)) {av fr : Bool} {a : Addr} (h : FM f Δ' σ' av fr a) : FM f Δ σ av fr a := ⟨fun e => ⟨fun z => (h.1 e).1 (t.ow' no z), (h.1 e).2⟩, h.2⟩
theorem TgOk.refl (r : R K f Δ ρ σ H) : TgOk K f Δ Δ ρ σ σ H [] := ⟨r, fun _ _ => ⟨rfl, rfl⟩, fun _ h => absurd h (by simp), rfl⟩
theorem TgOk.trans {Δ1 Δ2 : List Kd} {ρ1 ρ2 : List Dt} {σ1 σ2 : L2.St} {s1 s2 : List Nat} (t : TgOk K f Δ Δ1 ρ1 σ σ1 H s1) (u : TgOk K f Δ1 Δ2 ρ2 σ1 σ2 H s2) : TgOk K f Δ Δ2 ρ2 σ σ2 H (s1 ++ s2) := by
  refine ⟨u.r, fun i h => ?_, fun i h => ?_, u.len.trans t.len⟩
  · rw [List.mem_append, not_or] at h
    obtain ⟨a1, a2⟩ := t.keep i h.1
    obtain ⟨b1, b2⟩ := u.keep i h.2
    exact ⟨b1.trans a1, b2.trans a2⟩
  · by_cases z : i ∈ s2
    · exact u.im i z
    · rcases List.mem_append.mp h with h | h
      · obtain ⟨fr, e⟩ := t.im i h
        exact ⟨fr, (u.keep i z).1.trans e⟩
      · exact absurd h z
end

def GJ (K : PySem.W.Frag) (n : Nat) (g : TG) (sl : List Nat) (h : Dt → List Dt → O (List Dt)) (TK : Bool → List Kd → List Kd) : Prop := ∀ f Δ ρ σ H v d fr Q, Δ.length = n → R K f Δ ρ σ H → Rp K (FM f Δ σ true fr) H v d →
  (match h d ρ with | .ok ρ' => ∀ σ', TgOk K f Δ (TK fr Δ) ρ' σ σ' H sl → Q σ' H | _ => False) → g v σ H Q
def GJs (K : PySem.W.Frag) (n : Nat) (g : TGs) (sl : List Nat) (h : List Dt → List Dt → O (List Dt)) (TK : Bool → List Kd → List Kd) : Prop := ∀ f Δ ρ σ H vs ds fr Q, Δ.length = n → R K f Δ ρ σ H → RpA K (FM f Δ σ true fr) H vs ds →
  (match h ds ρ with | .ok ρ' => ∀ σ', TgOk K f Δ (TK fr Δ) ρ' σ σ' H sl → Q σ' H | _ => False) → g vs σ H Q
structure GD (X : Cx) (K : PySem.W.Frag) (n : Nat) (tg : Expr) (g : TG) (sl : List Nat) (h : Dt → List Dt → O (List Dt)) (TK : Bool → List Kd → List Kd) : Prop where
  pg : PG X tg g
  hK : X.K = K
  gj : GJ K n g sl h TK
structure GDs (X : Cx) (K : PySem.W.Frag) (n : Nat) (tg : List Expr) (g : TGs) (sl : List Nat) (h : List Dt → List Dt → O (List Dt)) (TK : Bool → List Kd → List Kd) : Prop where
  pg : PGs X tg g
  hK : X.K = K
  gj : GJs K n g sl h TK
def tgN (i : Nat) : Dt → List Dt → O (List Dt) := fun d ρ => .ok (ρ.set i d)
def tgT (h : List Dt → List Dt → O (List Dt)) : Dt → List Dt → O (List Dt) := fun d ρ => match d with
  | .tuple ds => h ds ρ
  | _ => .bad
def tgL (h : List Dt → List Dt → O (List Dt)) : Dt → List Dt → O (List Dt) := fun d ρ => match d with
  | .list ds => h ds ρ
  | _ => .bad
def tgNil : List Dt → List Dt → O (List Dt) := fun ds ρ => match ds with
  | [] => .ok ρ
  | _ => .bad
def tgCons (h : Dt → List Dt → O (List Dt)) (u : List Dt → List Dt → O (List Dt)) : List Dt → List Dt → O (List Dt) := fun ds ρ => match ds with
  | d :: r => (match h d ρ with
    | .ok ρ' => u r ρ'
    | _ => .bad)
  | [] => .bad
def TKN (i : Nat) : Bool → List Kd → List Kd := fun fr Δ => Δ.set i (.im fr)
def TK0 : Bool → List Kd → List Kd := fun _ Δ => Δ
def TKC (a b : Bool → List Kd → List Kd) : Bool → List Kd → List Kd := fun fr Δ => b fr (a fr Δ)

section
variable {K : PySem.W.Frag} {n : Nat}
theorem gj_name {i : Nat} (hi : i < n) : GJ K n (gName i) [i] (tgN i) (TKN i) := fun f Δ ρ σ H v d fr Q hl R x q => by
  have hi' : i < Δ.length := by rw [hl]; exact hi
  refine q (σ.set i (some v)) ⟨R.setIm hi' x, fun j h => ?_, fun j h => ?_, by unfold TKN; rw [List.length_set]⟩
  · have : i ≠ j := fun e => h (by rw [e]; exact List.mem_singleton.mpr rfl)
    unfold TKN
    exact ⟨List.getElem?_set_ne this, List.getElem?_set_ne this⟩
  · have : j = i := List.mem_singleton.mp h
    subst this
    unfold TKN
    exact ⟨fr, List.getElem?_set_self hi'⟩
theorem gj_nil : GJs K n L2.gNil [] tgNil TK0 := fun f Δ ρ σ H vs ds fr Q hl R x q => by
  cases x with
  | nil => exact ⟨rfl, q σ (.refl R)⟩
  | cons => exact q.elim
theorem gj_cons {g : TG} {gs : TGs} {s1 s2 : List Nat} {h : Dt → List Dt → O (List Dt)} {u : List Dt → List Dt → O (List Dt)} {T1 T2 : Bool → List Kd → List Kd} (a : GJ K n g s1 h T1) (b : GJs K n gs s2 u T2) :
    GJs K n (L2.gCons g gs) (s1 ++ s2) (tgCons h u) (TKC T1 T2) := fun f Δ ρ σ H vs ds fr Q hl R x q => by
  cases x with
  | nil => exact q.elim
  | cons x r =>
    refine ⟨_, _, rfl, ?_⟩
    unfold tgCons at q
    refine a f Δ ρ σ H _ _ fr _ hl R x ?_
    simp only at q
    revert q
    cases e : h _ ρ with
    | bad => exact fun q => q.elim
    | ex z => exact fun q => q.elim
    | ok ρ1 =>
      intro q σ1 t1
      refine b f _ ρ1 σ1 H _ _ fr _ (t1.len.trans hl) t1.r (r.weak fun _ y => t1.fm y) ?_
      simp only at q
      revert q
      cases e2 : u _ ρ1 with
      | bad => exact fun q => q.elim
      | ex z => exact fun q => q.elim
      | ok ρ2 => exact fun q σ2 t2 => q σ2 (t1.trans t2)
theorem gj_tup {m : Nat} {gs : TGs} {sl : List Nat} {u : List Dt → List Dt → O (List Dt)} {T : Bool → List Kd → List Kd} (b : GJs K n gs sl u T) (hm : ∀ ds ρ, ds.length ≠ m → ∀ z, u ds ρ ≠ .ok z) :
    GJ K n (L2.gTup K m gs) sl (tgT u) T := fun f Δ ρ σ H v d fr Q hl R x q => by
  cases d with
  | tuple ds =>
    obtain ⟨a, xs, rfl, hs, r⟩ := x.sqt
    have q : (match u ds ρ with | .ok ρ' => ∀ σ', TgOk K f Δ (T fr Δ) ρ' σ σ' H sl → Q σ' H | _ => False) := q
    refine ⟨a, xs, rfl, hs, ?_, b f Δ ρ σ H xs ds fr Q hl R r q⟩
    by_cases e : ds.length = m
    · rw [r.length]; exact e
    · cases eu : u ds ρ with
      | ok z => exact absurd eu (hm ds ρ e z)
      | bad => rw [eu] at q; exact q.elim
      | ex z => rw [eu] at q; exact q.elim
  | _ => exact q.elim
theorem tgNil_len : ∀ ds ρ, ds.length ≠ 0 → ∀ z, tgNil ds ρ ≠ .ok z
  | [], _, h, _ => absurd rfl h
  | _ :: _, _, _, _ => fun e => by cases e
theorem tgCons_len {m : Nat} {h : Dt → List Dt → O (List Dt)} {u : List Dt → List Dt → O (List Dt)} (hu : ∀ ds ρ, ds.length ≠ m → ∀ z, u ds ρ ≠ .ok z) : ∀ ds ρ, ds.length ≠ m + 1 → ∀ z, tgCons h u ds ρ ≠ .ok z
  | [], _, _, _ => fun e => by cases e
  | d :: r, ρ, hl, z => fun e => by
    unfold tgCons at e
    simp only at e
    cases eh : h d ρ with
    | bad => rw [eh] at e; cases e
    | ex y => rw [eh] at e; cases e
    | ok ρ' =>
      rw [eh] at e
      exact hu r ρ' (fun q => hl (by rw [List.length_cons, q])) z e
end
section
variable {X : Cx} {K : PySem.W.Frag} {n : Nat} {pos : Pos}
theorem g_name (i : Nat) {x : Str} (hN : X.N.Nodup) (hn : i < n := by decide) (hi : X.N[i]? = some x := by rfl) (hx : Loc X.env.scope x := by first | exact .inl rfl | exact .inr rfl) (hf : X.fn x = true ∨ X.env.scope.names.lookup x = some .local := by first | exact .inl rfl | exact .inr rfl) (hK : X.K = K := by rfl) :
    GD X K n (.Name x pos) (gName i) [i] (tgN i) (TKN i) := ⟨pg_name hN hi hx hf, hK, gj_name hn⟩
theorem g_nil (hK : X.K = K := by rfl) : GDs X K n [] L2.gNil [] tgNil TK0 := ⟨pgs_nil, hK, gj_nil⟩
theorem g_cons {e : Expr} {es : List Expr} {g : TG} {gs : TGs} {s1 s2 : List Nat} {h : Dt → List Dt → O (List Dt)} {u : List Dt → List Dt → O (List Dt)} {T1 T2 : Bool → List Kd → List Kd} (a : GD X K n e g s1 h T1) (b : GDs X K n es gs s2 u T2)
    (hs : (assignEach (e :: es) X.env).map (·.2) = assign e X.env :: (assignEach es X.env).map (·.2) := by rfl) : GDs X K n (e :: es) (L2.gCons g gs) (s1 ++ s2) (tgCons h u) (TKC T1 T2) := ⟨pgs_cons a.pg b.pg hs, a.hK, gj_cons a.gj b.gj⟩
end

/-! ### comprehensions -/
abbrev W0 : Wt := fun _ _ _ => False
def wipeK (Δ : List Kd) : List Nat → List Kd
  | [] => Δ
  | v :: vs => (wipeK Δ vs).set v .no
def noOwn (Δ : List Kd) (vs : List Nat) : Bool := vs.all fun i => match Δ[i]? with
  | some (.own _ _) => false
  | _ => true
theorem wipeK_len (Δ : List Kd) : ∀ vs, (wipeK Δ vs).length = Δ.length
  | [] => rfl
  | v :: vs => by unfold wipeK; rw [List.length_set, wipeK_len Δ vs]
theorem wipeK_out {Δ : List Kd} {i : Nat} : ∀ {vs : List Nat}, i ∉ vs → (wipeK Δ vs)[i]? = Δ[i]?
  | [], _ => rfl
  | v :: vs, h => by
    unfold wipeK
    rw [List.getElem?_set_ne (fun e => h (by rw [e]; exact List.mem_cons_self)), wipeK_out fun z => h (List.mem_cons_of_mem _ z)]
theorem wipeK_in {Δ : List Kd} {i : Nat} : ∀ {vs : List Nat}, i ∈ vs → ∀ k, (wipeK Δ vs)[i]? = some k → k = .no
  | [], h, _, _ => absurd h (by simp)
  | v :: vs, h, k, e => by
    unfold wipeK at e
    by_cases z : v = i
    · subst z
      by_cases hv : v < (wipeK Δ vs).length
      · rw [List.getElem?_set_self hv] at e
        exact (Option.some.inj e).symm
      · rw [List.getElem?_eq_none (by rw [List.length_set]; omega)] at e
        cases e
    · rw [List.getElem?_set_ne z] at e
      rcases List.mem_cons.mp h with q | q
      · exact absurd q.symm z
      · exact wipeK_in q k e
theorem wipe_out {σ : L2.St} {i : Nat} : ∀ {vs : List Nat}, i ∉ vs → (wipe σ vs)[i]? = σ[i]?
  | [], _ => rfl
  | v :: vs, h => by
    unfold wipe
    rw [List.getElem?_set_ne (fun e => h (by rw [e]; exact List.mem_cons_self)), wipe_out fun z => h (List.mem_cons_of_mem _ z)]
theorem wipe_in {σ : L2.St} {i : Nat} : ∀ {vs : List Nat}, i ∈ vs → i < σ.length → (wipe σ vs)[i]? = some none
  | [], h, _ => absurd h (by simp)
  | v :: vs, h, hl => by
    unfold wipe
    by_cases z : v = i
    · subst z
      rw [List.getElem?_set_self (by rw [wipe_length]; exact hl)]
    · rw [List.getElem?_set_ne z]
      rcases List.mem_cons.mp h with q | q
      · exact absurd q.symm z
      · exact wipe_in q hl
theorem wipe_eq {σ σ' : L2.St} {vs : List Nat} (hl : σ'.length = σ.length) (h : ∀ i, i ∉ vs → σ'[i]? = σ[i]?) : wipe σ' vs = wipe σ vs := by
  apply List.ext_getElem?
  intro i
  by_cases z : i ∈ vs
  · by_cases q : i < σ.length
    · rw [wipe_in z (by rw [hl]; exact q), wipe_in z q]
    · rw [List.getElem?_eq_none (by rw [wipe_length, hl]; omega), List.getElem?_eq_none (by rw [wipe_length]; omega)]
  · rw [wipe_out z, wipe_out z]
    exact h i z
theorem noOwn_get {Δ : List Kd} {vs : List Nat} (h : noOwn Δ vs = true) {i : Nat} (hi : i ∈ vs) {c : Ct} {fr : Bool} : Δ[i]? ≠ some (.own c fr) := fun e => by
  have q := List.all_eq_true.mp h i hi
  rw [e] at q
  cases q
section
variable {K : PySem.W.Frag} {f : Fm} {Δ : List Kd} {ρ : List Dt} {σ : L2.St} {H : Hp}
theorem ow_wipe {vs : List Nat} (h : noOwn Δ vs = true) {a : Addr} : Ow (wipeK Δ vs) (wipe σ vs) a ↔ Ow Δ σ a := by
  constructor
  · rintro ⟨i, c, fr, h1, h2⟩
    have z : i ∉ vs := fun z => by cases wipeK_in z _ h1
    exact ⟨i, c, fr, by rw [← wipeK_out z]; exact h1, by rw [← wipe_out z]; exact h2⟩
  · rintro ⟨i, c, fr, h1, h2⟩
    have z : i ∉ vs := fun z => noOwn_get h z h1
    exact ⟨i, c, fr, by rw [wipeK_out z]; exact h1, by rw [wipe_out z]; exact h2⟩
theorem fm_wipe {vs : List Nat} (h : noOwn Δ vs = true) {av fr : Bool} {a : Addr} : FM f (wipeK Δ vs) (wipe σ vs) av fr a ↔ FM f Δ σ av fr a := by
  unfold FM
  rw [ow_wipe h]
theorem R.wipe {vs : List Nat} (h : noOwn Δ vs = true) (r : R K f Δ ρ σ H) : R K f (wipeK Δ vs) ρ (L2.wipe σ vs) H := by
  refine ⟨r.ext, r.g0, by rw [wipe_length, wipeK_len]; exact r.lσ, by rw [wipeK_len]; exact r.lρ, ?_, fun a ha => ⟨(r.pin a ha).1, fun z => (r.pin a ha).2 ((ow_wipe h).mp z)⟩, fun g hg => (r.gh g hg).weak fun a y => (fm_wipe h).mpr y, fun i fr h' => ?_, fun i c fr h' => ?_, fun i c fr h' ha => ?_⟩
  · intro i j ci fi cj fj p h1 h2 h3 h4
    have z1 : i ∉ vs := fun z => by cases wipeK_in z _ h1
    have z2 : j ∉ vs := fun z => by cases wipeK_in z _ h2
    rw [wipeK_out z1] at h1
    rw [wipeK_out z2] at h2
    rw [wipe_out z1] at h3
    rw [wipe_out z2] at h4
    exact r.inj i j _ _ _ _ p h1 h2 h3 h4
  · have z1 : i ∉ vs := fun z => by cases wipeK_in z _ h'
    rw [wipeK_out z1] at h'
    obtain ⟨v, d, h1, h2, h3⟩ := r.im i fr h'
    exact ⟨v, d, by rw [wipe_out z1]; exact h1, h2, h3.weak fun a y => (fm_wipe h).mpr y⟩
  · have z1 : i ∉ vs := fun z => by cases wipeK_in z _ h'
    rw [wipeK_out z1] at h'
    obtain ⟨v, d, h1, h2, h3, h4⟩ := r.ow i c fr h'
    exact ⟨v, d, by rw [wipe_out z1]; exact h1, h2, h3, h4.map (fun o e => e) fun _ _ x => x.weak fun a y => (fm_wipe h).mpr y⟩
  · have z1 : i ∉ vs := fun z => by cases wipeK_in z _ h'
    rw [wipeK_out z1] at h'
    obtain ⟨p, h1, h2⟩ := r.ar i c fr h' ha
    exact ⟨p, h1, by rw [wipe_out z1]; exact h2⟩
/-- a new list at p and what is walked, kept in mind -/
def Fm.with (f : Fm) (P : List Addr) (g : List (List V × List Dt × Bool)) : Fm := { f with P := P ++ f.P, Γ := g ++ f.Γ }
theorem R.addG {vs : List V} {es : List Dt} {fr : Bool} (r : R K f Δ ρ σ H) (x : RpA K (FM f Δ σ true fr) H vs es) : R K { f with Γ := (vs, es, fr) :: f.Γ } Δ ρ σ H := by
  refine ⟨r.ext, r.g0, r.lσ, r.lρ, r.inj, r.pin, fun g hg => ?_, r.im, r.ow, r.ar⟩
  rcases List.mem_cons.mp hg with e | h
  · subst e; exact x
  · exact r.gh g h
theorem R.dropG {g : List V × List Dt × Bool} {Γ : List (List V × List Dt × Bool)} (r : R K { f with Γ := g :: Γ } Δ ρ σ H) : R K { f with Γ := Γ } Δ ρ σ H :=
  ⟨r.ext, r.g0, r.lσ, r.lρ, r.inj, r.pin, fun g hg => r.gh g (List.mem_cons_of_mem _ hg), r.im, r.ow, r.ar⟩
theorem R.addP {p : Addr} {o : HO} (r : R K f Δ ρ σ H) (np : H p = none) (m : Mutb o) : R K { f with P := p :: f.P } Δ ρ σ (upd H p o) := by
  obtain ⟨f1, f2, f3⟩ := r.fresh np
  have key : ∀ {fr : Bool} {v : V} {d : Dt}, Rp K (FM f Δ σ true fr) H v d → Rp K (FM { f with P := p :: f.P } Δ σ true fr) (upd H p o) v d := fun h =>
    h.mono (same_upd np) fun a fa na => ⟨fun _ => ⟨(fa.1 rfl).1, fun z => by
      rcases List.mem_cons.mp z with e | h
      · exact na (e ▸ np)
      · exact (fa.1 rfl).2 h⟩, fa.2⟩
  refine ⟨r.ext.trans (same_upd np), r.g0, r.lσ, r.lρ, r.inj, fun a ha => ?_, fun g hg => (r.gh g hg).map fun _ _ x => key x, fun i fr h => ?_, fun i c fr h => ?_, r.ar⟩
  · rcases List.mem_cons.mp ha with e | h
    · subst e
      exact ⟨⟨o, upd_same, m⟩, f1⟩
    · obtain ⟨⟨u, hu, mu⟩, no⟩ := r.pin a h
      exact ⟨⟨u, same_upd np _ _ hu, mu⟩, no⟩
  · obtain ⟨v, d, h1, h2, h3⟩ := r.im i fr h
    exact ⟨v, d, h1, h2, key h3⟩
  · obtain ⟨v, d, h1, h2, h3, h4⟩ := r.ow i c fr h
    exact ⟨v, d, h1, h2, h3, h4.map (fun o e => same_upd np _ _ e) fun _ _ x => key x⟩
end

def lcE (h : Dt → List Dt → O (List Dt)) (gt : List Dt → O Bool) (ge : Gd) (ρ : List Dt) : List Dt → O (List Dt)
  | [] => .ok []
  | d :: ds => bnd (h d ρ) fun ρ' => bnd (gt ρ') fun b => if b then bnd (ge ρ') fun e => bnd (lcE h gt ge ρ ds) fun es => .ok (e :: es) else lcE h gt ge ρ ds
def gLc (gi : List Dt → O (List Dt)) (h : Dt → List Dt → O (List Dt)) (gt : List Dt → O Bool) (ge : Gd) : Gd := fun ρ => bnd (gi ρ) fun ds => if ds.length ≤ 100000 then (match lcE h gt ge ρ ds with
  | .ok es => .ok (.list es)
  | _ => .bad) else .bad
def gYes : List Dt → O Bool := fun _ => .ok true
theorem bnd_inv {α β : Type} {x : O α} {k : α → O β} {z : β} (h : bnd x k = .ok z) : ∃ a, x = .ok a ∧ k a = .ok z := by
  cases x with
  | bad => cases h
  | ex e => cases h
  | ok a => exact ⟨a, rfl, h⟩

theorem se_lc {K : PySem.W.Frag} {W : Wt} {Δ : List Kd} {wi : TI} {g : TG} {tt : TT} {te : TE} {vs sl : List Nat} {b fr fr' : Bool} {gi : List Dt → O (List Dt)} {h : Dt → List Dt → O (List Dt)} {TK : Bool → List Kd → List Kd} {gt : List Dt → O Bool} {ge : Gd} {n : Nat}
    (hi : SI K W Δ wi b fr gi) (hg : GJ K n g sl h TK) (hn : Δ.length = n) (hsl : ∀ i ∈ sl, i ∈ vs) (no : noOwn Δ vs = true) (ht : ST K W0 (TK fr (wipeK Δ vs)) tt gt) (he : SE K W0 (TK fr (wipeK Δ vs)) te (.v true fr') ge) :
    SE K W Δ (tLc wi g tt te vs) (.new .l fr') (gLc gi h gt ge) := fun f ρ σ H Q r q => by
  refine hi f ρ σ H _ r ?_
  unfold gLc at q
  cases e1 : gi ρ with
  | bad => rw [e1] at q; exact q
  | ex z => rw [e1] at q; exact q
  | ok ds =>
    rw [e1, bnd_ok] at q
    by_cases hl : ds.length ≤ 100000
    · rw [if_pos hl] at q
      cases ea : lcE h gt ge ρ ds with
      | bad => rw [ea] at q; exact q.elim
      | ex z => rw [ea] at q; exact q.elim
      | ok all =>
        rw [ea] at q
        intro J H1 pf gv ge0 s1 hb hpf x1 sc D nD
        -- the frame within
        have r1 := (((r.mono s1).addP (o := .lst []) nD trivial).addG (fr := fr) (x1.mono (same_upd nD) fun a fa na => ⟨fun _ => ⟨(fa.1 rfl).1, fun z => by
          rcases List.mem_cons.mp z with e | h
          · exact na (e ▸ nD)
          · exact (fa.1 rfl).2 h⟩, fa.2⟩))
        generalize hf1 : ({ f with P := D :: f.P, Γ := (gv, ge0, fr) :: f.Γ } : Fm) = f1 at r1
        have r1 : R K f1 Δ ρ σ (upd H1 D (.lst [])) := by rw [← hf1]; rw [← hf1] at r1; exact r1
        have dP : D ∈ f1.P := by rw [← hf1]; exact List.mem_cons_self
        have gG : (gv, ge0, fr) ∈ f1.Γ := by rw [← hf1]; exact List.mem_cons_self
        have h0 : f1.H0 D = none := by rw [← hf1]; exact ((r.mono s1).fresh nD).2.2
        have fmf : ∀ {fr : Bool} {a : Addr}, FM f1 Δ σ true fr a → FM f Δ σ true fr a ∧ a ≠ D := fun {fr a} y => by
          rw [← hf1] at y
          exact ⟨⟨fun e => ⟨(y.1 e).1, fun z => (y.1 e).2 (List.mem_cons_of_mem _ z)⟩, y.2⟩, fun z => (y.1 rfl).2 (z ▸ List.mem_cons_self)⟩
        have noSl : ∀ i ∈ sl, ∀ c fr, (wipeK Δ vs)[i]? ≠ some (.own c fr) := fun i hi c fr e => by cases wipeK_in (hsl i hi) _ e
        refine ⟨fun i m H' => m = ds.length - i ∧ i ≤ ds.length ∧ ∃ acc es rest, H' D = some (.lst acc) ∧ R K f1 Δ ρ σ H' ∧ RpA K (FM f1 Δ σ true fr') H' acc es ∧ acc.length ≤ i ∧ lcE h gt ge ρ (ds.drop i) = .ok rest ∧ all = es ++ rest ∧ Same H H' ∧ (∀ q, pf = some q → H' q.1 = some q.2),
          ⟨ds.length, by simp, Nat.zero_le _, [], [], all, upd_same, r1, .nil, Nat.le_refl _, ea, rfl, s1.trans (same_upd nD), fun q eq => same_upd nD _ _ (hpf q eq)⟩, ?_⟩
        rintro i m H2 ⟨rfl, hi2, acc, es, rest, hD, r2, x2, la, er, eall, sHH, hpf2⟩
        have stand : (∀ q, pf = some q → H2 q.1 = some q.2) ∧ ∃ F, RpA K F H2 gv ge0 := ⟨hpf2, _, r2.gh _ gG⟩
        by_cases hlt : i < ds.length
        · refine .inr ⟨sc.goes i H2 hlt stand, fun H' => i + 1 ≤ ds.length ∧ ∃ acc es rest, H' D = some (.lst acc) ∧ R K f1 Δ ρ σ H' ∧ RpA K (FM f1 Δ σ true fr') H' acc es ∧ acc.length ≤ i + 1 ∧ lcE h gt ge ρ (ds.drop (i + 1)) = .ok rest ∧ all = es ++ rest ∧ Same H H' ∧ (∀ q, pf = some q → H' q.1 = some q.2),
            fun H' w => ⟨ds.length - (i + 1), by omega, rfl, w⟩, fun x H3 hy => ?_⟩
          obtain ⟨s3, hx⟩ := sc.yields i H2 x H3 hlt stand hy
          obtain ⟨d, hd, x3⟩ := hx _ (r2.gh _ gG)
          have edrop : ds.drop i = d :: ds.drop (i + 1) := by
            have hd' := (List.getElem?_eq_some_iff.mp hd).2
            rw [List.drop_eq_getElem_cons hlt, hd']
          rw [edrop] at er
          unfold lcE at er
          obtain ⟨ρ', eh, er⟩ := bnd_inv er
          obtain ⟨c, ec, er⟩ := bnd_inv er
          have r3 := r2.mono s3
          refine hg f1 (wipeK Δ vs) ρ (wipe σ vs) H3 x d fr _ (by rw [wipeK_len]; exact hn) (r3.wipe no) (x3.weak fun a y => (fm_wipe no).mpr y) ?_
          rw [eh]
          intro σ4 t4
          refine ⟨?_, ?_⟩
          · rw [wipe_eq (σ' := σ4) (σ := wipe σ vs) (by rw [t4.r.lσ, t4.len, wipeK_len, wipe_length, r.lσ]) fun i hi => (t4.keep i fun z => hi (hsl i z)).2]
            exact wipe_eq (wipe_length σ vs) fun i hi => wipe_out hi
          · refine ht f1 ρ' σ4 H3 _ t4.r ?_
            rw [ec]
            intro H4 s4
            cases c with
            | false =>
              show (if false = true then _ else _)
              rw [if_neg Bool.false_ne_true]
              have er : lcE h gt ge ρ (ds.drop (i + 1)) = .ok rest := er
              have s24 := s3.trans s4
              exact ⟨hlt, acc, es, rest, s24 _ _ hD, r2.mono s24, x2.same s24, by omega, er, eall, sHH.trans s24, fun q eq => s24 _ _ (hpf2 q eq)⟩
            | true =>
              show (if true = true then _ else _)
              rw [if_pos rfl]
              have er : bnd (ge ρ') (fun e => bnd (lcE h gt ge ρ (ds.drop (i + 1))) fun es => .ok (e :: es)) = .ok rest := er
              obtain ⟨e, ee, er⟩ := bnd_inv er
              obtain ⟨es', ees, er⟩ := bnd_inv er
              cases er
              refine he f1 ρ' σ4 H4 _ (t4.r.mono s4) ?_
              rw [ee]
              intro y H5 s5 x5
              have s25 := (s3.trans s4).trans s5
              have hD5 := s25 _ _ hD
              refine ⟨acc, hD5, Nat.lt_of_lt_of_le (show acc.length < 100001 by omega) (by decide), hlt, acc ++ [y], es ++ [e], es', upd_same, (r2.mono s25).updAt hD5 trivial trivial h0 (fun z => ((r2.pin D dP).2 z)) dP, ?_, by rw [List.length_append, List.length_singleton]; omega, ees, by rw [eall]; simp, ?_, fun q eq => ?_⟩
              · refine ((x2.same s25).updM hD5 trivial fun a y z => (y.1 rfl).2 (z ▸ dP)).append (.cons ?_ .nil)
                refine Rp.updM hD5 trivial (fun a y z => (y.1 rfl).2 (z ▸ dP)) (x5.weak fun a y => (fm_wipe no).mp (t4.fm' noSl y))
              · intro a o ha
                have na : a ≠ D := fun z => by
                  have z1 := s1 _ _ ha
                  rw [z, nD] at z1
                  cases z1
                rw [upd_ne na]
                exact s25 _ _ (sHH _ _ ha)
              · have nq : q.1 ≠ D := fun z => by
                  have z1 := hpf q eq
                  rw [z, nD] at z1
                  cases z1
                rw [upd_ne nq]
                exact s25 _ _ (hpf2 q eq)
        · have ei : i = ds.length := by omega
          subst ei
          refine .inl ⟨sc.stops H2 stand, ?_⟩
          rw [List.drop_length] at er
          cases er
          rw [List.append_nil] at eall
          subst eall
          refine q D H2 (s1.free nD) sHH ⟨acc, _, rfl, hD, x2.weak fun a y => fmf y⟩
    · rw [if_neg hl] at q
      exact q.elim
end Sim
end T_SimE

section T_SimF
set_option Elab.async false
set_option linter.all false
set_option maxRecDepth 100000
/-! SimF: statements, calls, defs. -/
namespace Sim
open PySem PySem.Spec L2
open PyProof.Rows hiding St

inductive Fl where
  | nx (ρ : List Dt) | rt (d : Dt) | bk (ρ : List Dt) | ct (ρ : List Dt)
abbrev Gs := List Dt → O Fl

/-- how a def tells: a value, a new list; the same of a def that changes its argument -/
inductive Lk where
  | n | l | m | ml
def sclA : List Dt → Bool
  | [] => true
  | d :: ds => scl d && sclA ds
def sclV : List (Dt × Dt) → Bool
  | [] => true
  | d :: ds => scl d.2 && sclV ds
/-- what stands at an argument's place: scalars -/
def ArgAt (K : PySem.W.Frag) (H : Hp) (a : Addr) (d : Dt) : Prop := match d with
  | .list es => sclA es = true ∧ ∃ ws, H a = some (.lst ws) ∧ RpA K (fun _ => False) H ws es
  | .dict es => sclV es = true ∧ ∃ kvs, H a = some (.dK kvs) ∧ KvA K (fun _ => False) H kvs es
  | _ => False
def PoS (K : PySem.W.Frag) (W : Wt) (L : Lk) (f : Fm) (Δn Δb Δc : List Kd) (o : O Fl) (E : Ends) : Prop := match o with
  | .bad => False
  | .ex e => ∀ σ' H', Same f.H0 H' → W e σ' H'
  | .ok (.nx ρ) => ∀ σ' H', R K f Δn ρ σ' H' → E.nx σ' H'
  | .ok (.rt d) => (match L with
    | .l => ∀ p H', f.H0 p = none → Same f.H0 H' → OwC K .l (fun a => f.G a ∧ a ≠ p) H' p d → E.rt (.ref p) H'
    | .n => ∀ v H', Same f.H0 H' → Rp K f.G H' v d → E.rt v H'
    | .m => (match f.A, d with
      | some a, .tuple [r, e] => ∀ v H', Same f.H0 H' → ArgAt K H' a e → Rp K (fun b => f.G b ∧ b ≠ a) H' v r → E.rt v H'
      | _, _ => False)
    | .ml => (match f.A, d with
      | some a, .tuple [r, e] => ∀ p H', p ≠ a → f.H0 p = none → Same f.H0 H' → ArgAt K H' a e → OwC K .l (fun b => (f.G b ∧ b ≠ a) ∧ b ≠ p) H' p r → E.rt (.ref p) H'
      | _, _ => False))
  | .ok (.bk ρ) => ∀ σ' H', R K f Δb ρ σ' H' → E.bk σ' H'
  | .ok (.ct ρ) => ∀ σ' H', R K f Δc ρ σ' H' → E.ct σ' H'
def SS (K : PySem.W.Frag) (W : Wt) (L : Lk) (Δ Δn Δb Δc : List Kd) (ts : TS) (g : Gs) : Prop := ∀ f ρ σ H E, R K f Δ ρ σ H → PoS K W L f Δn Δb Δc (g ρ) E → ts E σ H

/-! ### closures -/
def gNext : Gs := fun ρ => .ok (.nx ρ)
def gSeqS (a b : Gs) : Gs := fun ρ => match a ρ with
  | .ok (.nx ρ') => b ρ'
  | o => o
def gRet (g : Gd) : Gs := fun ρ => bnd (g ρ) fun d => .ok (.rt d)
def gRetN : Gs := fun _ => .ok (.rt .none)
def gAsg (g : Gd) (h : Dt → List Dt → O (List Dt)) : Gs := fun ρ => bnd (g ρ) fun d => match h d ρ with
  | .ok ρ' => .ok (.nx ρ')
  | _ => .bad
def gSet (i : Nat) (g : Gd) : Gs := fun ρ => bnd (g ρ) fun d => .ok (.nx (ρ.set i d))
def gPar (i j : Nat) (g : List Dt → O (List Dt)) : Gs := fun ρ => bnd (g ρ) fun ds => match ds with
  | [a, b] => .ok (.nx ((ρ.set i a).set j b))
  | _ => .bad
def gAug (h : Int → Int → Int) (i : Nat) (g : Gd) : Gs := fun ρ => match ρ[i]? with
  | some (.int a) => bnd (g ρ) fun d => (match d with
    | .int b => .ok (.nx (ρ.set i (.int (h a b))))
    | _ => .bad)
  | _ => .bad
def gDrop (g : Gd) : Gs := fun ρ => bnd (g ρ) fun _ => .ok (.nx ρ)
def gApp (i : Nat) (g : Gd) : Gs := fun ρ => match ρ[i]? with
  | some (.list ds) => bnd (g ρ) fun d => if ds.length < 100000 then .ok (.nx (ρ.set i (.list (ds ++ [d])))) else .bad
  | _ => .bad
def gExt (i : Nat) (g : Gd) : Gs := fun ρ => match ρ[i]? with
  | some (.list ds) => bnd (g ρ) fun d => (match d with
    | .list es => if ds.length + es.length ≤ 100000 then .ok (.nx (ρ.set i (.list (ds ++ es)))) else .bad
    | _ => .bad)
  | _ => .bad
def gSetI (i : Nat) (ge gi : Gd) : Gs := fun ρ => bnd (ge ρ) fun d => match ρ[i]? with
  | some (.list ds) => bnd (gi ρ) fun k => (match k with
    | .int k => (match ixN ds.length k with
      | some j => .ok (.nx (ρ.set i (.list (ds.set j d))))
      | none => .bad)
    | _ => .bad)
  | _ => .bad
def gIfS (t : List Dt → O Bool) (a b : Gs) : Gs := fun ρ => bnd (t ρ) fun c => if c then a ρ else b ρ
def gWhile (t : List Dt → O Bool) (b : Gs) : Nat → Gs
  | 0 => fun _ => .bad
  | n + 1 => fun ρ => bnd (t ρ) fun c => if c then (bnd (b ρ) fun fl => match fl with
    | .nx ρ' => gWhile t b n ρ'
    | .ct ρ' => gWhile t b n ρ'
    | .bk ρ' => .ok (.nx ρ')
    | .rt d => .ok (.rt d)) else .ok (.nx ρ)
def forE (h : Dt → List Dt → O (List Dt)) (b : Gs) : List Dt → Gs
  | [] => fun ρ => .ok (.nx ρ)
  | d :: ds => fun ρ => match h d ρ with
    | .ok ρ1 => bnd (b ρ1) fun fl => (match fl with
      | .nx ρ' => forE h b ds ρ'
      | .ct ρ' => forE h b ds ρ'
      | .bk ρ' => .ok (.nx ρ')
      | .rt d => .ok (.rt d))
    | _ => .bad
def gFor (gi : List Dt → O (List Dt)) (h : Dt → List Dt → O (List Dt)) (b : Gs) : Gs := fun ρ => bnd (gi ρ) fun ds => forE h b ds ρ

section
variable {K : PySem.W.Frag} {W : Wt} {Δ Δ1 Δ2 Δn Δb Δc : List Kd} {te ti : TE} {tt : TT} {t u : TS} {ta : TA} {g ge gi : Gd} {gt : List Dt → O Bool} {gA : List Dt → O (List Dt)} {ga gb : Gs} {fr fr' av av' : Bool} {L : Lk} {i j : Nat}

theorem SS.pre (h : SS K W L Δ1 Δn Δb Δc t ga) (l : leA Δ Δ1 = true) : SS K W L Δ Δn Δb Δc t ga := fun f ρ σ H E r q => h f ρ σ H E (r.weak l) q
theorem SS.post {Δn' Δb' Δc' : List Kd} (h : SS K W L Δ Δn Δb Δc t ga) (ln : leA Δn Δn' = true) (lb : leA Δb Δb' = true) (lc : leA Δc Δc' = true) : SS K W L Δ Δn' Δb' Δc' t ga := fun f ρ σ H E r q => h f ρ σ H E r <| by
  cases e : ga ρ with
  | bad => rw [e] at q; exact q
  | ex z => rw [e] at q; exact q
  | ok fl =>
    rw [e] at q
    cases fl with
    | nx ρ' => exact fun σ' H' r => q σ' H' (r.weak ln)
    | rt d => exact q
    | bk ρ' => exact fun σ' H' r => q σ' H' (r.weak lb)
    | ct ρ' => exact fun σ' H' r => q σ' H' (r.weak lc)
theorem s_next : SS K W L Δ Δ Δb Δc tNext gNext := fun f ρ σ H E r q => q σ H r
theorem s_seq (h1 : SS K W L Δ Δ1 Δb Δc t ga) (h2 : SS K W L Δ1 Δn Δb Δc u gb) : SS K W L Δ Δn Δb Δc (tSeq t u) (gSeqS ga gb) := fun f ρ σ H E r q => h1 f ρ σ H _ r <| by
  unfold gSeqS at q
  cases e : ga ρ with
  | bad => rw [e] at q; exact q
  | ex z => rw [e] at q; exact q
  | ok fl =>
    rw [e] at q
    cases fl with
    | nx ρ' => exact fun σ' H' r' => h2 f ρ' σ' H' E r' q
    | rt d => exact q
    | bk ρ' => exact q
    | ct ρ' => exact q
theorem s_ret (h : SE K W Δ te (.v av true) g) : SS K W .n Δ Δn Δb Δc (tRet te) (gRet g) := fun f ρ σ H E r q => h f ρ σ H _ r <| by
  unfold gRet at q
  cases e : g ρ with
  | bad => rw [e] at q; exact q
  | ex z => rw [e] at q; exact fun H' s => q σ H' (r.ext.trans s)
  | ok d =>
    rw [e] at q
    exact fun v H' s x => q v H' (r.ext.trans s) (x.weak fun a fa => fa.2 rfl)
theorem s_retL (h : SE K W Δ te (.new .l true) g) : SS K W .l Δ Δn Δb Δc (tRet te) (gRet g) := fun f ρ σ H E r q => h f ρ σ H _ r <| by
  unfold gRet at q
  cases e : g ρ with
  | bad => rw [e] at q; exact q
  | ex z => rw [e] at q; exact fun H' s => q σ H' (r.ext.trans s)
  | ok d =>
    rw [e] at q
    exact fun p H' np s x => q p H' (r.fresh np).2.2 (r.ext.trans s) (x.map (fun _ e => e) fun _ _ y => y.weak fun a fa => ⟨fa.1.2 rfl, fa.2⟩)
/-- return of an owned name -/
theorem s_retO (hk : Δ[i]? = some (.own .l true)) : SS K W .l Δ Δn Δb Δc (tRet (tVar i)) (gRet (gVar i)) := fun f ρ σ H E r q => by
  obtain ⟨p, d, h1, h2, h3, h4⟩ := r.ow i .l true hk
  unfold gRet gVar at q
  rw [h2, bnd_ok] at q
  exact ⟨_, h1, q p H h3 r.ext (h4.map (fun _ e => e) fun _ _ y => y.weak fun a fa => ⟨fa.2 rfl, fun z => (fa.1 rfl).1 (z ▸ ⟨i, .l, true, hk, h1⟩)⟩)⟩
def gPurV (i : Nat) : Gd := gPurN (gVar i)
theorem s_retOp (hk : Δ[i]? = some (.own .l fr)) : SS K W .l Δ Δn Δb Δc (tRet (tVar i)) (gRet (gPurV i)) := fun f ρ σ H E r q => by
  obtain ⟨p, d, h1, h2, h3, vs, ds, ed, h4, h5⟩ := r.ow i .l fr hk
  subst ed
  unfold gRet gPurV gPurN gVar at q
  rw [h2] at q
  have q : PoS K W .l f Δn Δb Δc (bnd (if pureIn (.list ds) = true then O.ok (PyData.list ds) else O.bad) fun d => O.ok (Fl.rt d)) E := q
  by_cases pp : pureIn (.list ds) = true
  · rw [if_pos pp] at q
    exact ⟨_, h1, q p H h3 r.ext ⟨vs, ds, rfl, h4, h5.pure pp⟩⟩
  · rw [if_neg pp] at q
    exact q.elim
theorem s_retN : SS K W .n Δ Δn Δb Δc tRetN gRetN := fun f ρ σ H E r q => q .non H r.ext .non
theorem s_drop {k : Rk} (h : SE K W Δ te k g) : SS K W L Δ Δ Δb Δc (tDrop te) (gDrop g) := fun f ρ σ H E r q => h f ρ σ H _ r <| by
  unfold gDrop at q
  cases e : g ρ with
  | bad => rw [e] at q; exact q
  | ex z => rw [e] at q; exact fun H' s => q σ H' (r.ext.trans s)
  | ok d =>
    rw [e] at q
    cases k with
    | v av fr => exact fun v H' s x => q σ H' (r.mono s)
    | o fr => exact fun p H' vs ds e s _ _ _ => q σ H' (r.mono s)
    | new c fr => exact fun p H' np s x => q σ H' (r.mono s)
theorem s_set (hi : i < Δ.length) (h : SE K W Δ te (.v true fr) g) : SS K W L Δ (Δ.set i (.im fr)) Δb Δc (tAsg te (gName i)) (gSet i g) := fun f ρ σ H E r q => h f ρ σ H _ r <| by
  unfold gSet at q
  cases e : g ρ with
  | bad => rw [e] at q; exact q
  | ex z => rw [e] at q; exact fun H' s => q σ H' (r.ext.trans s)
  | ok d =>
    rw [e] at q
    exact fun v H' s x => q _ H' ((r.mono s).setIm hi x)
theorem s_setO {c : Ct} (hi : i < Δ.length) (h : SE K W Δ te (.new c fr) g) (hc : isArg c = false := by rfl) : SS K W L Δ (Δ.set i (.own c fr)) Δb Δc (tAsg te (gName i)) (gSet i g) := fun f ρ σ H E r q => h f ρ σ H _ r <| by
  unfold gSet at q
  cases e : g ρ with
  | bad => rw [e] at q; exact q
  | ex z => rw [e] at q; exact fun H' s => q σ H' (r.ext.trans s)
  | ok d =>
    rw [e] at q
    exact fun p H' np s x => q _ H' (r.setOwn hi np s x hc)
theorem s_asg {gg : TG} {sl : List Nat} {n : Nat} {hh : Dt → List Dt → O (List Dt)} {TK : Bool → List Kd → List Kd} (hn : Δ.length = n) (h : SE K W Δ te (.v true fr) g) (hg : GJ K n gg sl hh TK) : SS K W L Δ (TK fr Δ) Δb Δc (tAsg te gg) (gAsg g hh) := fun f ρ σ H E r q => h f ρ σ H _ r <| by
  unfold gAsg at q
  cases e : g ρ with
  | bad => rw [e] at q; exact q
  | ex z => rw [e] at q; exact fun H' s => q σ H' (r.ext.trans s)
  | ok d =>
    rw [e, bnd_ok] at q
    intro v H' s x
    refine hg f Δ ρ σ H' v d fr _ hn (r.mono s) x ?_
    cases e2 : hh d ρ with
    | bad => rw [e2] at q; exact q.elim
    | ex z => rw [e2] at q; exact q.elim
    | ok ρ' =>
      rw [e2] at q
      exact fun σ' t => q σ' H' t.r
theorem s_par (hi : i < Δ.length) (hj : j < Δ.length) (h : SA K W Δ ta true fr gA) : SS K W L Δ ((Δ.set i (.im fr)).set j (.im fr)) Δb Δc (tPar i j ta) (gPar i j gA) := fun f ρ σ H E r q => h f ρ σ H _ r <| by
  unfold gPar at q
  cases e : gA ρ with
  | bad => rw [e] at q; exact q
  | ex z => rw [e] at q; exact fun H' s => q σ H' (r.ext.trans s)
  | ok ds =>
    rw [e, bnd_ok] at q
    intro vs H' s x
    match ds, x, q with
    | [], _, q => exact q.elim
    | [_], _, q => exact q.elim
    | [a, b], .cons x1 (.cons x2 .nil), q =>
      refine ⟨_, _, rfl, q _ H' ?_⟩
      have r1 := (r.mono s).setIm (fr := fr) hi x1
      refine r1.setIm (by rw [List.length_set]; exact hj) (x2.weak fun a fa => ⟨fun _ => ⟨fun z => (fa.1 rfl).1 ?_, (fa.1 rfl).2⟩, fa.2⟩)
      obtain ⟨k, c, frk, h1, h2⟩ := z
      by_cases z : i = k
      · subst z
        rw [List.getElem?_set_self hi] at h1
        cases h1
      · rw [List.getElem?_set_ne z] at h1 h2
        exact ⟨k, c, frk, h1, h2⟩
    | _ :: _ :: _ :: _, _, q => exact q.elim
theorem s_aug {hf : Int → Int → Int} (hk : Δ[i]? = some (.im fr)) (h : SE K W Δ te (.v av' fr') g) : SS K W L Δ (Δ.set i (.im true)) Δb Δc (tAug i te (ipI hf)) (gAug hf i g) := fun f ρ σ H E r q => by
  obtain ⟨v, d, h1, h2, h3⟩ := r.im i fr hk
  have hi : i < Δ.length := (List.getElem?_eq_some_iff.mp hk).1
  unfold gAug at q
  rw [h2] at q
  cases h3 with
  | int a =>
    refine ⟨_, h1, h f ρ σ H _ r ?_⟩
    simp only at q
    cases e : g ρ with
    | bad => rw [e] at q; exact q
    | ex z => rw [e] at q; exact fun H' s => q σ H' (r.ext.trans s)
    | ok d =>
      rw [e, bnd_ok] at q
      intro v H' s x
      cases d with
      | int b =>
        rw [rpInt x]
        exact ⟨a, b, rfl, rfl, q _ H' ((r.mono s).setIm hi (.int _))⟩
      | _ => exact q.elim
  | non => exact q.elim
  | bl => exact q.elim
  | str => exact q.elim
  | lst => exact q.elim
  | fz => exact q.elim
  | tup => exact q.elim
theorem s_app (hk : Δ[i]? = some (.own .l fr)) (h : SE K W Δ te (.v true fr') g) : SS K W L Δ (Δ.set i (.own .l (fr && fr'))) Δb Δc (tDrop (tBM K "list" rAppend (tVar i) (tCons te tNil))) (gApp i g) := fun f ρ σ H E r q => by
  obtain ⟨p, d, h1, h2, h3, vs, ds, ed, h4, h5⟩ := r.ow i .l fr hk
  subst ed
  unfold gApp at q
  rw [h2] at q
  simp only at q
  refine ⟨_, h1, .inl ⟨rfl, _, .inl (.inl h4)⟩, h f ρ σ H _ r ?_⟩
  cases e : g ρ with
  | bad => rw [e] at q; exact q
  | ex z => rw [e] at q; exact fun H' s => q σ H' (r.ext.trans s)
  | ok d =>
    rw [e, bnd_ok] at q
    intro v H1 s x
    by_cases hl : ds.length < 100000
    · rw [if_pos hl] at q
      have hp := s _ _ h4
      have hl2 : vs.length < sizeLine := by rw [h5.length]; exact Nat.lt_of_lt_of_le hl (by decide)
      refine ⟨p, vs, v, rfl, rfl, hp, hl2, q σ _ ?_⟩
      refine (r.mono s).updOwn hk h1 (c' := .l) (show Mutb (.lst _) from trivial) ⟨_, _, rfl, upd_same, ?_⟩
      have nf : ∀ {fr : Bool} (a : Addr), FM f Δ σ true fr a → a ≠ p := fun a fa z => (fa.1 rfl).1 (z ▸ ⟨i, .l, _, hk, h1⟩)
      exact (((h5.same s).updM hp trivial fun a fa => nf a fa).weak fun a y => y.weak id fun h => (Bool.and_eq_true_iff.mp h).1).append
        (.cons ((Rp.updM hp trivial (fun a fa => nf a fa) x).weak fun a y => y.weak id fun h => (Bool.and_eq_true_iff.mp h).2) .nil)
    · rw [if_neg hl] at q
      exact q.elim
theorem s_ext (hk : Δ[i]? = some (.own .l fr)) (h : SE K W Δ te (.new .l fr') g) : SS K W L Δ (Δ.set i (.own .l (fr && fr'))) Δb Δc (tDrop (tBM K "list" rExtend (tVar i) (tCons te tNil))) (gExt i g) := fun f ρ σ H E r q => by
  obtain ⟨p, d, h1, h2, h3, vs, ds, ed, h4, h5⟩ := r.ow i .l fr hk
  subst ed
  unfold gExt at q
  rw [h2] at q
  simp only at q
  refine ⟨_, h1, .inl ⟨rfl, _, .inl (.inl h4)⟩, h f ρ σ H _ r ?_⟩
  cases e : g ρ with
  | bad => rw [e] at q; exact q
  | ex z => rw [e] at q; exact fun H' s => q σ H' (r.ext.trans s)
  | ok d =>
    rw [e, bnd_ok] at q
    intro b H1 nb s x
    obtain ⟨ws, es, ed, hb, x⟩ := x
    subst ed
    simp only at q
    by_cases hl : ds.length + es.length ≤ 100000
    · rw [if_pos hl] at q
      have hp := s _ _ h4
      have hl2 : vs.length + ws.length ≤ sizeLine := by rw [h5.length, x.length]; exact sz_le hl
      refine ⟨p, b, vs, ws, rfl, rfl, hp, hb, hl2, q σ _ ?_⟩
      refine (r.mono s).updOwn hk h1 (c' := .l) (show Mutb (.lst _) from trivial) ⟨_, _, rfl, upd_same, ?_⟩
      have nf : ∀ {fr : Bool} (a : Addr), FM f Δ σ true fr a → a ≠ p := fun a fa z => (fa.1 rfl).1 (z ▸ ⟨i, .l, _, hk, h1⟩)
      exact (((h5.same s).updM hp trivial fun a fa => nf a fa).weak fun a y => y.weak id fun h => (Bool.and_eq_true_iff.mp h).1).append
        ((x.weak fun a y => y.1).updM hp trivial (fun a fa => nf a fa) |>.weak fun a y => y.weak id fun h => (Bool.and_eq_true_iff.mp h).2)
    · rw [if_neg hl] at q
      exact q.elim
theorem s_setI (hk : Δ[i]? = some (.own .l fr)) (h : SE K W Δ te (.v true fr') ge) (h2 : SE K W Δ ti (.v av av') gi) : SS K W L Δ (Δ.set i (.own .l (fr && fr'))) Δb Δc (tAsg te (gSub (tVar i) ti rSetL)) (gSetI i ge gi) := fun f ρ σ H E r q => h f ρ σ H _ r <| by
  obtain ⟨p, d, g1, g2, g3, vs, ds, ed, g4, g5⟩ := r.ow i .l fr hk
  subst ed
  unfold gSetI at q
  cases e : ge ρ with
  | bad => rw [e] at q; exact q
  | ex z => rw [e] at q; exact fun H' s => q σ H' (r.ext.trans s)
  | ok d =>
    rw [e, bnd_ok, g2] at q
    simp only at q
    intro v H1 s x
    refine ⟨_, g1, h2 f ρ σ H1 _ (r.mono s) ?_⟩
    cases e2 : gi ρ with
    | bad => rw [e2] at q; exact q
    | ex z => rw [e2] at q; exact fun H' s2 => q σ H' ((r.ext.trans s).trans s2)
    | ok k =>
      rw [e2, bnd_ok] at q
      intro kv H2 s2 xk
      cases k with
      | int k =>
        simp only at q
        cases ej : ixN ds.length k with
        | none => rw [ej] at q; exact q.elim
        | some j =>
          rw [ej] at q
          rw [rpInt xk]
          have s12 := s.trans s2
          have hp := s12 _ _ g4
          refine ⟨p, vs, k, j, rfl, rfl, hp, by rw [g5.length]; exact ej, q σ _ ?_⟩
          refine (r.mono s12).updOwn hk g1 (c' := .l) (show Mutb (.lst _) from trivial) ⟨_, _, rfl, upd_same, ?_⟩
          have nf : ∀ {fr : Bool} (a : Addr), FM f Δ σ true fr a → a ≠ p := fun a fa z => (fa.1 rfl).1 (z ▸ ⟨i, .l, _, hk, g1⟩)
          exact RpA.set ((Rp.updM hp trivial (fun a fa => nf a fa) (x.same s2)).weak fun a y => y.weak id fun h => (Bool.and_eq_true_iff.mp h).2) j
            (((g5.same s12).updM hp trivial fun a fa => nf a fa).weak fun a y => y.weak id fun h => (Bool.and_eq_true_iff.mp h).1)
      | _ => exact q.elim
theorem s_if (h : ST K W Δ tt gt) (h1 : SS K W L Δ Δn Δb Δc t ga) (h2 : SS K W L Δ Δn Δb Δc u gb) : SS K W L Δ Δn Δb Δc (tIfS tt t u) (gIfS gt ga gb) := fun f ρ σ H E r q => h f ρ σ H _ r <| by
  unfold gIfS at q
  cases e : gt ρ with
  | bad => rw [e] at q; exact q
  | ex z => rw [e] at q; exact fun H' s => q σ H' (r.ext.trans s)
  | ok c =>
    rw [e, bnd_ok] at q
    intro H1 s
    cases c with
    | true => exact h1 f ρ σ H1 E (r.mono s) q
    | false => exact h2 f ρ σ H1 E (r.mono s) q
theorem s_brk : SS K W L Δ Δn Δ Δc tBreak (fun ρ => .ok (.bk ρ)) := fun f ρ σ H E r q => q σ H r
theorem s_cont : SS K W L Δ Δn Δb Δ tCont (fun ρ => .ok (.ct ρ)) := fun f ρ σ H E r q => q σ H r
theorem s_while (n : Nat) (h : ST K W Δ tt gt) (hb : SS K W L Δ Δ Δ Δ t gb) : SS K W L Δ Δ Δb Δc (tWhile tt t) (gWhile gt gb n) := fun f ρ σ H E r q => by
  refine ⟨fun m σ H => ∃ ρ, R K f Δ ρ σ H ∧ PoS K W L f Δ Δb Δc (gWhile gt gb m ρ) E, ⟨n, ρ, r, q⟩, ?_⟩
  rintro m σ1 H1 ⟨ρ1, r1, q1⟩
  cases m with
  | zero => exact q1.elim
  | succ m =>
    refine h f ρ1 σ1 H1 _ r1 ?_
    unfold gWhile at q1
    cases e : gt ρ1 with
    | bad => rw [e] at q1; exact q1
    | ex z => rw [e] at q1; exact fun H' s => q1 σ1 H' (r1.ext.trans s)
    | ok c =>
      rw [e, bnd_ok] at q1
      intro H2 s2
      cases c with
      | false => exact q1 σ1 H2 (r1.mono s2)
      | true =>
        show (if true = true then _ else _)
        rw [if_pos rfl]
        refine ⟨fun σ' H' => ∃ ρ', R K f Δ ρ' σ' H' ∧ PoS K W L f Δ Δb Δc (gWhile gt gb m ρ') E, fun σ' H' w => ⟨m, Nat.lt_succ_self m, w⟩, hb f ρ1 σ1 H2 _ (r1.mono s2) ?_⟩
        have q1 : PoS K W L f Δ Δb Δc (bnd (gb ρ1) fun fl => match fl with | .nx ρ' => gWhile gt gb m ρ' | .ct ρ' => gWhile gt gb m ρ' | .bk ρ' => .ok (.nx ρ') | .rt d => .ok (.rt d)) E := q1
        cases e2 : gb ρ1 with
        | bad => rw [e2] at q1; exact q1
        | ex z => rw [e2] at q1; exact q1
        | ok fl =>
          rw [e2, bnd_ok] at q1
          cases fl with
          | nx ρ' => exact fun σ' H' r' => ⟨ρ', r', q1⟩
          | ct ρ' => exact fun σ' H' r' => ⟨ρ', r', q1⟩
          | bk ρ' => exact q1
          | rt d => exact q1
theorem PoS.toG {f : Fm} {gg : List V × List Dt × Bool} {o : O Fl} {E : Ends} (q : PoS K W L f Δn Δb Δc o E) : PoS K W L { f with Γ := gg :: f.Γ } Δn Δb Δc o E := by
  cases o with
  | bad => exact q
  | ex z => exact q
  | ok fl =>
    cases fl with
    | nx ρ => exact fun σ' H' r => q σ' H' r.dropG
    | rt d => exact q
    | bk ρ => exact fun σ' H' r => q σ' H' r.dropG
    | ct ρ => exact fun σ' H' r => q σ' H' r.dropG
theorem s_for {wi : TI} {gg : TG} {sl : List Nat} {n : Nat} {hh : Dt → List Dt → O (List Dt)} {TK : Bool → List Kd → List Kd} {gI : List Dt → O (List Dt)} (hn : Δ.length = n) (h : SI K W Δ wi false fr gI) (hg : GJ K n gg sl hh TK) (hb : SS K W L (TK fr Δ) Δ Δ Δ t gb) :
    SS K W L Δ Δ Δb Δc (tFor wi gg t) (gFor gI hh gb) := fun f ρ σ H E r q => h f ρ σ H _ r <| by
  unfold gFor at q
  cases e : gI ρ with
  | bad => rw [e] at q; exact q
  | ex z => rw [e] at q; exact fun H' s => q σ H' (r.ext.trans s)
  | ok ds =>
    rw [e, bnd_ok] at q
    intro J H1 pf vs es s1 hpf _ x sc
    have hpf := hpf rfl
    subst hpf
    have r1 := (r.mono s1).addG (fr := fr) x
    have q1 := q.toG (gg := (vs, es, fr))
    generalize hf1 : ({ f with Γ := (vs, es, fr) :: f.Γ } : Fm) = f1 at r1 q1
    have gG : (vs, es, fr) ∈ f1.Γ := by rw [← hf1]; exact List.mem_cons_self
    refine ⟨fun i m σ H => m = ds.length - i ∧ i ≤ ds.length ∧ ∃ ρ, R K f1 Δ ρ σ H ∧ PoS K W L f1 Δ Δb Δc (forE hh gb (ds.drop i) ρ) E, ⟨ds.length, by simp, Nat.zero_le _, ρ, r1, q1⟩, ?_⟩
    rintro i m σ2 H2 ⟨rfl, hi, ρ2, r2, q2⟩
    have stand : (∀ q, (none : Option (Addr × HO)) = some q → H2 q.1 = some q.2) ∧ ∃ F, RpA K F H2 vs es := ⟨fun _ e => (nomatch e), _, r2.gh _ gG⟩
    by_cases hlt : i < ds.length
    · refine .inr ⟨sc.goes i H2 hlt stand, fun σ' H' => i + 1 ≤ ds.length ∧ ∃ ρ, R K f1 Δ ρ σ' H' ∧ PoS K W L f1 Δ Δb Δc (forE hh gb (ds.drop (i + 1)) ρ) E, fun σ' H' w => ⟨ds.length - (i + 1), by omega, rfl, w⟩, fun x H3 hy => ?_⟩
      obtain ⟨s3, hx⟩ := sc.yields i H2 x H3 hlt stand hy
      obtain ⟨d, hd, x3⟩ := hx _ (r2.gh _ gG)
      have edrop : ds.drop i = d :: ds.drop (i + 1) := by
        have hd' := (List.getElem?_eq_some_iff.mp hd).2
        rw [List.drop_eq_getElem_cons hlt, hd']
      rw [edrop] at q2
      unfold forE at q2
      refine hg f1 Δ ρ2 σ2 H3 x d fr _ hn (r2.mono s3) x3 ?_
      cases eh : hh d ρ2 with
      | bad => rw [eh] at q2; exact q2.elim
      | ex z => rw [eh] at q2; exact q2.elim
      | ok ρ3 =>
        rw [eh] at q2
        simp only at q2
        intro σ4 t4
        refine hb f1 ρ3 σ4 H3 _ t4.r ?_
        cases e2 : gb ρ3 with
        | bad => rw [e2] at q2; exact q2
        | ex z => rw [e2] at q2; exact q2
        | ok fl =>
          rw [e2, bnd_ok] at q2
          cases fl with
          | nx ρ' => exact fun σ' H' r' => ⟨hlt, ρ', r', q2⟩
          | ct ρ' => exact fun σ' H' r' => ⟨hlt, ρ', r', q2⟩
          | bk ρ' => exact q2
          | rt d => exact q2
    · have ei : i = ds.length := by omega
      subst ei
      rw [List.drop_length] at q2
      exact .inl ⟨sc.stops H2 stand, q2 σ2 H2 r2⟩
end

/-! ### promises, calls -/
def Wcls (mg : Str → Option Value) (e : Exn) (E : XK) (H' : Hp) : Prop := ∀ C, mg e.cls = some (.ref C) → match e.arg with
  | none => E (.ref C) none H'
  | some m => ∀ d, H' d = some (.xd [("moment", .int m)]) → E (.ref C) (some d) H'
def spG (K : PySem.W.Frag) (mg : Str → Option Value) (n : Nat) (g : List Dt → O Dt) : Sp := fun vs H Q E => ∃ ds, vs.length = n ∧ RpA K (fun _ => True) H vs ds ∧ (match g ds with
  | .bad => False
  | .ex e => ∀ H', Same H H' → Wcls mg e E H'
  | .ok d => ∀ v H', Same H H' → Rp K (fun a => H a = none) H' v d → Q v H')
/-- what is told may hold what was handed in -/
def spA (K : PySem.W.Frag) (mg : Str → Option Value) (n : Nat) (g : List Dt → O Dt) : Sp := fun vs H Q E => ∃ ds F, vs.length = n ∧ RpA K F H vs ds ∧ (match g ds with
  | .bad => False
  | .ex e => ∀ H', Same H H' → Wcls mg e E H'
  | .ok d => ∀ v H', Same H H' → Rp K (fun a => F a ∨ H a = none) H' v d → Q v H')
/-- a new list is told -/
def spL (K : PySem.W.Frag) (mg : Str → Option Value) (n : Nat) (g : List Dt → O Dt) : Sp := fun vs H Q E => ∃ ds, vs.length = n ∧ RpA K (fun _ => True) H vs ds ∧ (match g ds with
  | .bad => False
  | .ex e => ∀ H', Same H H' → Wcls mg e E H'
  | .ok d => ∀ p H', H p = none → Same H H' → OwC K .l (fun a => H a = none ∧ a ≠ p) H' p d → Q (.ref p) H')
def gCallN (n : Nat) (g : List Dt → O Dt) (gA : List Dt → O (List Dt)) : Gd := fun ρ => bnd (gA ρ) fun ds => if ds.length = n then (match g ds with
  | .ok d => .ok d
  | _ => .bad) else .bad
section
variable {K : PySem.W.Frag} {W : Wt} {Δ : List Kd} {ta : TA} {gA : List Dt → O (List Dt)} {av fr : Bool} {mg : Str → Option Value} {n : Nat} {g : List Dt → O Dt}
theorem se_callN (h : SA K W Δ ta av fr gA) : SE K W Δ (tCall (spG K mg n g) [] E0 ta) (.v true true) (gCallN n g gA) := fun f ρ σ H Q r q => h f ρ σ H _ r <| by
  unfold gCallN at q
  cases e : gA ρ with
  | bad => rw [e] at q; exact q
  | ex z => rw [e] at q; exact q
  | ok ds =>
    rw [e, bnd_ok] at q
    intro vs H1 s1 x1
    by_cases hn : ds.length = n
    · rw [if_pos hn] at q
      rw [List.append_nil]
      refine ⟨ds, by rw [x1.length]; exact hn, x1.weak fun _ _ => trivial, ?_⟩
      cases e2 : g ds with
      | bad => rw [e2] at q; exact q.elim
      | ex z => rw [e2] at q; exact q.elim
      | ok d =>
        rw [e2] at q
        intro v H2 s2 x2
        refine q v H2 (s1.trans s2) (x2.weak fun a na => ?_)
        obtain ⟨f1, f2, f3⟩ := (r.mono s1).fresh na
        exact ⟨fun _ => ⟨f1, f2⟩, fun _ => r.g0 a f3⟩
    · rw [if_neg hn] at q
      exact q.elim
theorem se_callL (h : SA K W Δ ta av fr gA) : SE K W Δ (tCall (spL K mg n g) [] E0 ta) (.new .l true) (gCallN n g gA) := fun f ρ σ H Q r q => h f ρ σ H _ r <| by
  unfold gCallN at q
  cases e : gA ρ with
  | bad => rw [e] at q; exact q
  | ex z => rw [e] at q; exact q
  | ok ds =>
    rw [e, bnd_ok] at q
    intro vs H1 s1 x1
    by_cases hn : ds.length = n
    · rw [if_pos hn] at q
      rw [List.append_nil]
      refine ⟨ds, by rw [x1.length]; exact hn, x1.weak fun _ _ => trivial, ?_⟩
      cases e2 : g ds with
      | bad => rw [e2] at q; exact q.elim
      | ex z => rw [e2] at q; exact q.elim
      | ok d =>
        rw [e2] at q
        intro p H2 np s2 x2
        refine q p H2 (s1.free np) (s1.trans s2) (x2.map (fun _ e => e) fun _ _ y => y.weak fun a na => ?_)
        obtain ⟨f1, f2, f3⟩ := (r.mono s1).fresh na.1
        exact ⟨⟨fun _ => ⟨f1, f2⟩, fun _ => r.g0 a f3⟩, na.2⟩
    · rw [if_neg hn] at q
      exact q.elim
theorem se_callA (h : SA K W Δ ta av fr gA) : SE K W Δ (tCall (spA K mg n g) [] E0 ta) (.v av fr) (gCallN n g gA) := fun f ρ σ H Q r q => h f ρ σ H _ r <| by
  unfold gCallN at q
  cases e : gA ρ with
  | bad => rw [e] at q; exact q
  | ex z => rw [e] at q; exact q
  | ok ds =>
    rw [e, bnd_ok] at q
    intro vs H1 s1 x1
    by_cases hn : ds.length = n
    · rw [if_pos hn] at q
      rw [List.append_nil]
      refine ⟨ds, _, by rw [x1.length]; exact hn, x1, ?_⟩
      cases e2 : g ds with
      | bad => rw [e2] at q; exact q.elim
      | ex z => rw [e2] at q; exact q.elim
      | ok d =>
        rw [e2] at q
        intro v H2 s2 x2
        refine q v H2 (s1.trans s2) (x2.weak fun a na => ?_)
        rcases na with na | na
        · exact na
        · obtain ⟨f1, f2, f3⟩ := (r.mono s1).fresh na
          exact ⟨fun _ => ⟨f1, f2⟩, fun _ => r.g0 a f3⟩
    · rw [if_neg hn] at q
      exact q.elim
end
end Sim
end T_SimF

section T_SimG
set_option Elab.async false
set_option linter.all false
set_option maxRecDepth 100000
/-! SimG: the rules for a text: subscripts, walks, comprehensions, calls, statements, defs. -/
namespace Sim
open PySem PySem.Spec L2
open PyProof.Rows hiding St

section
variable {X : Cx} {K : PySem.W.Frag} {W : Wt} {Δ Δ1 Δn Δb Δc : List Kd} {a b c e elt tg iter : Expr} {es ifs : List Expr} {ta tb tc te : TE} {tt tu : TT} {tA : TA} {ga gb gc g ge gi : Gd} {gt gu : List Dt → O Bool} {gA gI : List Dt → O (List Dt)} {k k1 k2 : Rk} {av fr av' fr' : Bool} {L : Lk} {pos : Pos} {t u : TS} {g1 g2 : Gs}

/-! subscripts, slices -/
theorem x_ix (ha : PD X K W Δ a ta (.v av fr) ga) (hb : PD X K W Δ b tb (.v av' fr') gb) (hs : PlainIx b := by exact fun _ _ => rfl) : PD X K W Δ (.Subscript a b pos) (tOp (rIx K) ta tb) (.v av fr) (gOp hIx ga gb) :=
  ⟨pe_ix (by have q := ix_seq (X := X); rw [ha.hK] at q; exact q) ha.pe hb.pe hs, ha.hK, se_ix ha.se hb.se⟩
theorem x_ixO (ha : PD X K W Δ a ta (.o fr) ga) (hb : PD X K W Δ b tb (.v av' fr') gb) (hs : PlainIx b := by exact fun _ _ => rfl) : PD X K W Δ (.Subscript a b pos) (tOp (rIx K) ta tb) (.v true fr) (gOp hIx ga gb) :=
  ⟨pe_ix (by have q := ix_seq (X := X); rw [ha.hK] at q; exact q) ha.pe hb.pe hs, ha.hK, se_ixO ha.se hb.se⟩
structure OD (X : Cx) (K : PySem.W.Frag) (W : Wt) (Δ : List Kd) (e : Option Expr) (to : TOp) (g : List Dt → O (Option Int)) : Prop where
  po : PO X e to
  so : SO K W Δ to g
theorem o_none : OD X K W Δ none tNoPart gNoPart := ⟨po_none, so_none⟩
theorem o_some (h : PD X K W Δ e te (.v av fr) g) : OD X K W Δ (some e) (tPart te) (gPart g) := ⟨po_some h.pe, so_some h.se⟩
theorem x_sl {lo hi : Option Expr} {tl th : TOp} {gl gh : List Dt → O (Option Int)} {p2 : Pos} (h : PD X K W Δ e te (.v true fr) g) (h1 : OD X K W Δ lo tl gl) (h2 : OD X K W Δ hi th gh) : PD X K W Δ (.Subscript e (.Slice lo hi none p2) pos) (tSl (rSlL K) te tl th) (.new .l fr) (gSl hSl g gl gh) :=
  ⟨pe_slice (by have q := sl_list (X := X); rw [h.hK] at q; exact q) h.pe h1.po h2.po, h.hK, se_sl h.se h1.so h2.so⟩
theorem x_slO {lo hi : Option Expr} {tl th : TOp} {gl gh : List Dt → O (Option Int)} {p2 : Pos} (h : PD X K W Δ e te (.o fr) g) (h1 : OD X K W Δ lo tl gl) (h2 : OD X K W Δ hi th gh) : PD X K W Δ (.Subscript e (.Slice lo hi none p2) pos) (tSl (rSlL K) te tl th) (.new .l fr) (gSl hSl g gl gh) :=
  ⟨pe_slice (by have q := sl_list (X := X); rw [h.hK] at q; exact q) h.pe h1.po h2.po, h.hK, se_slO h.se h1.so h2.so⟩
theorem x_slT {lo hi : Option Expr} {tl th : TOp} {gl gh : List Dt → O (Option Int)} {p2 : Pos} (h : PD X K W Δ e te (.v av fr) g) (h1 : OD X K W Δ lo tl gl) (h2 : OD X K W Δ hi th gh) : PD X K W Δ (.Subscript e (.Slice lo hi none p2) pos) (tSl (rSlA K) te tl th) (.v av fr) (gSl hSlT g gl gh) :=
  ⟨pe_slice (by have q := sl_tupA (X := X); rw [h.hK] at q; exact q) h.pe h1.po h2.po, h.hK, se_slT h.se h1.so h2.so⟩

/-! list + list, list * int -/
theorem x_cat (ha : PD X K W Δ a ta (.v true fr) ga) (hb : PD X K W Δ b tb (.v true fr') gb) : PD X K W Δ (.BinOp a .Add b pos) (tOp (rCatS K) ta tb) (.new .l (fr && fr')) (gOp hCat ga gb) :=
  ⟨pe_op (by have q := op_catS (X := X); rw [ha.hK] at q; exact q) ha.pe hb.pe, ha.hK, se_cat ha.se hb.se⟩
theorem x_catO (ha : PD X K W Δ a ta (.o fr) ga) (hb : PD X K W Δ b tb (.v true fr') gb) : PD X K W Δ (.BinOp a .Add b pos) (tOp (rCatS K) ta tb) (.new .l (fr && fr')) (gOp hCat ga gb) :=
  ⟨pe_op (by have q := op_catS (X := X); rw [ha.hK] at q; exact q) ha.pe hb.pe, ha.hK, se_catO ha.se hb.se⟩
theorem x_rep (ha : PD X K W Δ a ta (.new .l fr) ga) (hb : PD X K W Δ b tb (.v av' fr') gb) : PD X K W Δ (.BinOp a .Mult b pos) (tOp rRep ta tb) (.new .l fr) (gOp hRep ga gb) := ⟨pe_op op_rep ha.pe hb.pe, ha.hK, se_rep ha.se hb.se⟩

/-! list(x), tuple(x), sorted(x) -/
theorem x_list {x : Str} {p : Pos} (hm : X.mg x = none) (h : AD X K W Δ (e :: es) tA true fr gA) (hv : bootBuiltins x = some (.type "list") := by decide +kernel) (hg : Gl X x := by rfl) (hn : x ≠ "__name__" := by decide) (hdb : (x == ("__debug__" : Str)) = false := by decide)
    (he : starEach (e :: es) X.env = (false, eval e X.env) :: starEach es X.env := by rfl) (hpl : (backTo pos (starEach es X.env)).any (·.1) = false := by rfl) :
    PD X K W Δ (.Call (.Name x p) (e :: es) [] pos) (tCB (rListOf K) tA) (.new .l fr) (gCB (one hListOf) gA) :=
  ⟨pe_callTy (by have q := call_list_of (X := X); rw [h.hK] at q; exact q) hg hm hv h.pa hn hdb he hpl, h.hK, se_listOf h.sa⟩
theorem x_listO {x : Str} {p : Pos} (hm : X.mg x = none) (h : PD X K W Δ e te (.o fr) g) (hv : bootBuiltins x = some (.type "list") := by decide +kernel) (hg : Gl X x := by rfl) (hn : x ≠ "__name__" := by decide) (hdb : (x == ("__debug__" : Str)) = false := by decide)
    (he : starEach [e] X.env = (false, eval e X.env) :: starEach [] X.env := by rfl) (hpl : (backTo pos (starEach [] X.env)).any (·.1) = false := by rfl) :
    PD X K W Δ (.Call (.Name x p) [e] [] pos) (tCB (rListOf K) (tCons te tNil)) (.new .l fr) (gCB (one hListOf) (gCons g gNil)) :=
  ⟨pe_callTy (by have q := call_list_of (X := X); rw [h.hK] at q; exact q) hg hm hv (pa_cons h.pe pa_nil he) hn hdb he hpl, h.hK, se_listOwn h.se⟩
theorem x_tuple {x : Str} {p : Pos} (hm : X.mg x = none) (h : AD X K W Δ (e :: es) tA av fr gA) (hv : bootBuiltins x = some (.type "tuple") := by decide +kernel) (hg : Gl X x := by rfl) (hn : x ≠ "__name__" := by decide) (hdb : (x == ("__debug__" : Str)) = false := by decide)
    (he : starEach (e :: es) X.env = (false, eval e X.env) :: starEach es X.env := by rfl) (hpl : (backTo pos (starEach es X.env)).any (·.1) = false := by rfl) :
    PD X K W Δ (.Call (.Name x p) (e :: es) [] pos) (tCB (fun xs H Q => ∃ p ys, xs = [.ref p] ∧ ((SqL K H p ys ∧ ∀ l, H l = none → Q (.ref l) (upd H l (.tup ys))) ∨ (SqT K H p ys ∧ Q (.ref p) H))) tA) (.v av fr) (gCB (one hTupOf) gA) :=
  ⟨pe_callTy (by have q := call_tuple_of (X := X); rw [h.hK] at q; exact q) hg hm hv h.pa hn hdb he hpl, h.hK, se_tupOf h.sa⟩
theorem x_sorted {x : Str} {p : Pos} (hm : X.mg x = none) (h : AD X K W Δ (e :: es) tA av fr gA) (hv : bootBuiltins x = some (.builtin "sorted") := by decide +kernel) (hg : Gl X x := by rfl) (hn : x ≠ "__name__" := by decide) (hdb : (x == ("__debug__" : Str)) = false := by decide)
    (he : starEach (e :: es) X.env = (false, eval e X.env) :: starEach es X.env := by rfl) (hpl : (backTo pos (starEach es X.env)).any (·.1) = false := by rfl) :
    PD X K W Δ (.Call (.Name x p) (e :: es) [] pos) (tCB (rSortedI K) tA) (.new .l true) (gCB (one hSorted) gA) :=
  ⟨pe_callB (by have q := cr_sortedI (X := X); rw [h.hK] at q; exact q) hg hm hv h.pa hn hdb he hpl, h.hK, se_sorted h.sa⟩

/-! what is walked -/
theorem i_seq (h : PD X K W Δ e te (.v true fr) g) : ID X K W Δ tg e (iSeq K te) false fr (gSeq g) := ⟨by have q := pi_seq (tg := tg) h.pe; rw [h.hK] at q; exact q, h.hK, si_seq h.se⟩
theorem i_own (h : PD X K W Δ e te (.o fr) g) : ID X K W Δ tg e (iSeq K te) true fr (gSeq g) := ⟨by have q := pi_seq (tg := tg) h.pe; rw [h.hK] at q; exact q, h.hK, si_own h.se⟩
theorem i_rng1 {p : Pos} (hm : X.mg "range" = none) (h : AD X K W Δ [a] tA av fr gA) (hg : Gl X "range" := by rfl) (hs : starEach [a] X.env = [(false, eval a X.env)] := by rfl) : ID X K W Δ tg (.Call (.Name "range" p) [a] [] pos) (iRng1 tA) false true (gRng1 gA) := ⟨pi_range1 hg hm h.pa hs, h.hK, si_rng1 h.sa⟩
theorem i_rng2 {p : Pos} (hm : X.mg "range" = none) (h : AD X K W Δ [a, b] tA av fr gA) (hg : Gl X "range" := by rfl) (hs : starEach [a, b] X.env = [(false, eval a X.env), (false, eval b X.env)] := by rfl) (hs2 : starEach [b] X.env = [(false, eval b X.env)] := by rfl) :
    ID X K W Δ tg (.Call (.Name "range" p) [a, b] [] pos) (iRng2 tA) false true (gRng2 gA) := ⟨pi_range2 hg hm h.pa hs hs2, h.hK, si_rng2 h.sa⟩

/-! targets -/
theorem g_tup {n m kk : Nat} {gs : TGs} {sl : List Nat} {u : List Dt → List Dt → O (List Dt)} {T : Bool → List Kd → List Kd} (hc : X.calm = true) (h : GDs X K n es gs sl u T) (hm : ∀ ds ρ, ds.length ≠ m → ∀ z, u ds ρ ≠ .ok z) (hl : (assignEach es X.env).length = m := by rfl) (hst : List.findIdx? (fun x => x.fst) (assignEach es X.env) = none := by rfl) :
    GD X K n (.Tuple es kk pos) (L2.gTup K m gs) sl (tgT u) T := ⟨by have q := pg_tup (X := X) (k := kk) (n := m) (pos := pos) hc h.pg hl hst; rw [h.hK] at q; exact q, h.hK, gj_tup h.gj hm⟩

/-! comprehensions -/
structure TsD (X : Cx) (K : PySem.W.Frag) (Δ : List Kd) (ifs : List Expr) (tt : TT) (g : List Dt → O Bool) : Prop where
  pts : PTs X ifs tt
  st : ST K W0 Δ tt g
theorem t_nil : TsD X K Δ [] tYes gYes := ⟨pts_nil, fun f ρ σ H Q r q => q H (Same.refl H)⟩
theorem t_one (h : TD X K W0 Δ c tt gt) : TsD X K Δ [c] tt gt := ⟨pts_one h.pt, h.st⟩

theorem x_lc {n : Nat} {scope : Scope} (own : List (Str × Nat)) {wi : TI} {gg : TG} {sl : List Nat} {hh : Dt → List Dt → O (List Dt)} {TK : Bool → List Kd → List Kd} {bb : Bool} (hN : X.N.Nodup) (hi : ID X K W Δ tg iter wi bb fr gI) (ok : blkC X.N X.env.scope scope own = true)
    (hg : ∀ (s : Shared) (H : Hp) (C : Addr) (cl : List (Str × Addr)) (fp : List Addr), GD (X.blk s H scope (compEnvC scope cl C X.env) fp) K n tg gg sl hh TK)
    (ht : ∀ (s : Shared) (H : Hp) (C : Addr) (cl : List (Str × Addr)) (fp : List Addr), TsD (X.blk s H scope (compEnvC scope cl C X.env) fp) K (TK fr (wipeK Δ (own.map (·.2)))) ifs tt gt)
    (he : ∀ (s : Shared) (H : Hp) (C : Addr) (cl : List (Str × Addr)) (fp : List Addr), PD (X.blk s H scope (compEnvC scope cl C X.env) fp) K W0 (TK fr (wipeK Δ (own.map (·.2)))) elt te (.v true fr') ge)
    (hn : Δ.length = n := by rfl) (hsl : ∀ i ∈ sl, i ∈ own.map (·.2) := by decide) (no : noOwn Δ (own.map (·.2)) = true := by rfl) (hc : X.calm = true := by rfl) (hs : ∀ x, foldedSetIterable iter X.env x = pure x := by intro _; rfl) :
    PD X K W Δ (.ListComp elt [⟨tg, iter, ifs, 0⟩] scope pos) (tLc wi gg tt te (own.map (·.2))) (.new .l fr') (gLc gI hh gt ge) :=
  ⟨pe_lc hc hN hi.pi (blkOk_by ok) (fun s H C cl fp => (hg s H C cl fp).pg) (fun s H C cl fp => (ht s H C cl fp).pts) (fun s H C cl fp => (he s H C cl fp).pe) hs, hi.hK,
    se_lc hi.si (hg X.s_0 X.H_0 0 [] []).gj hn hsl no (ht X.s_0 X.H_0 0 [] []).st (he X.s_0 X.H_0 0 [] []).se⟩

/-! calls -/
theorem x_callN {x : Str} {p : Pos} {CXT' : CXT} {kk nn : Nat} {fa : Addr} {fd : FuncData} {ps : List Str} {gg : List Dt → O Dt} {mg : Str → Option Value} (F : FnOk X.prog X.w X.K X.mg X.base CXT' kk fa fd ps (spG K mg nn gg)) (hr : Room kk X.A) (hm : X.mg x = some (.ref fa)) (hk : PySem.W.keepIn X.K (.ref fa) = true) (hb : Binds X.K fd ps [])
    (hx : Passes CXT' X E0) (h : AD X K W Δ (e :: es) tA av fr gA) (hg : Gl X x := by rfl) (hdb : (x == ("__debug__" : Str)) = false := by decide) (he : starEach (e :: es) X.env = (false, eval e X.env) :: starEach es X.env := by rfl) (hpl : (backTo pos (starEach es X.env)).any (·.1) = false := by rfl) :
    PD X K W Δ (.Call (.Name x p) (e :: es) [] pos) (tCall (spG K mg nn gg) [] E0 tA) (.v true true) (gCallN nn gg gA) := ⟨pe_call F hr hg hm hk hb .nil hx h.pa hdb he hpl, h.hK, se_callN h.sa⟩
theorem x_callL {x : Str} {p : Pos} {CXT' : CXT} {kk nn : Nat} {fa : Addr} {fd : FuncData} {ps : List Str} {gg : List Dt → O Dt} {mg : Str → Option Value} (F : FnOk X.prog X.w X.K X.mg X.base CXT' kk fa fd ps (spL K mg nn gg)) (hr : Room kk X.A) (hm : X.mg x = some (.ref fa)) (hk : PySem.W.keepIn X.K (.ref fa) = true) (hb : Binds X.K fd ps [])
    (hx : Passes CXT' X E0) (h : AD X K W Δ (e :: es) tA av fr gA) (hg : Gl X x := by rfl) (hdb : (x == ("__debug__" : Str)) = false := by decide) (he : starEach (e :: es) X.env = (false, eval e X.env) :: starEach es X.env := by rfl) (hpl : (backTo pos (starEach es X.env)).any (·.1) = false := by rfl) :
    PD X K W Δ (.Call (.Name x p) (e :: es) [] pos) (tCall (spL K mg nn gg) [] E0 tA) (.new .l true) (gCallN nn gg gA) := ⟨pe_call F hr hg hm hk hb .nil hx h.pa hdb he hpl, h.hK, se_callL h.sa⟩
theorem x_callA {x : Str} {p : Pos} {CXT' : CXT} {kk nn : Nat} {fa : Addr} {fd : FuncData} {ps : List Str} {gg : List Dt → O Dt} {mg : Str → Option Value} (F : FnOk X.prog X.w X.K X.mg X.base CXT' kk fa fd ps (spA K mg nn gg)) (hr : Room kk X.A) (hm : X.mg x = some (.ref fa)) (hk : PySem.W.keepIn X.K (.ref fa) = true) (hb : Binds X.K fd ps [])
    (hx : Passes CXT' X E0) (h : AD X K W Δ (e :: es) tA av fr gA) (hg : Gl X x := by rfl) (hdb : (x == ("__debug__" : Str)) = false := by decide) (he : starEach (e :: es) X.env = (false, eval e X.env) :: starEach es X.env := by rfl) (hpl : (backTo pos (starEach es X.env)).any (·.1) = false := by rfl) :
    PD X K W Δ (.Call (.Name x p) (e :: es) [] pos) (tCall (spA K mg nn gg) [] E0 tA) (.v av fr) (gCallN nn gg gA) := ⟨pe_call F hr hg hm hk hb .nil hx h.pa hdb he hpl, h.hK, se_callA h.sa⟩
end

/-! ### statements -/
structure SD (X : Cx) (K : PySem.W.Frag) (W : Wt) (L : Lk) (Δ Δn Δb Δc : List Kd) (st : Stmt) (ts : TS) (g : Gs) : Prop where
  ps : PS X st ts
  hK : X.K = K
  ss : SS K W L Δ Δn Δb Δc ts g
structure BD (X : Cx) (K : PySem.W.Frag) (W : Wt) (L : Lk) (Δ Δn Δb Δc : List Kd) (sts : List Stmt) (ts : TS) (g : Gs) : Prop where
  ps : PSs X sts ts
  hK : X.K = K
  ss : SS K W L Δ Δn Δb Δc ts g
section
variable {X : Cx} {K : PySem.W.Frag} {W : Wt} {Δ Δ1 Δ2 Δn Δb Δc : List Kd} {a b c e elt tg iter : Expr} {es ifs : List Expr} {ta tb tc te ti : TE} {tt tu : TT} {tA : TA} {ga gb gc g ge gi : Gd} {gt gu : List Dt → O Bool} {gA gI : List Dt → O (List Dt)} {k k1 k2 : Rk} {av fr av' fr' : Bool} {L : Lk} {pos pos' : Pos} {t u : TS} {g1 g2 : Gs} {st : Stmt} {sts sts2 : List Stmt}

theorem SD.pre (h : SD X K W L Δ1 Δn Δb Δc st t g1) (l : leA Δ Δ1 = true := by rfl) : SD X K W L Δ Δn Δb Δc st t g1 := ⟨h.ps, h.hK, h.ss.pre l⟩
theorem BD.post {Δn' Δb' Δc' : List Kd} (h : BD X K W L Δ Δn Δb Δc sts t g1) (ln : leA Δn Δn' = true := by rfl) (lb : leA Δb Δb' = true := by rfl) (lc : leA Δc Δc' = true := by rfl) : BD X K W L Δ Δn' Δb' Δc' sts t g1 := ⟨h.ps, h.hK, h.ss.post ln lb lc⟩
theorem b_nil (hK : X.K = K := by rfl) : BD X K W L Δ Δ Δb Δc [] tNext gNext := ⟨pss_nil, hK, s_next⟩
theorem b_one (h : SD X K W L Δ Δn Δb Δc st t g1) : BD X K W L Δ Δn Δb Δc [st] t g1 := ⟨pss_one h.ps, h.hK, h.ss⟩
theorem b_cons (h : SD X K W L Δ Δ1 Δb Δc st t g1) (h2 : BD X K W L Δ1 Δn Δb Δc sts u g2) : BD X K W L Δ Δn Δb Δc (st :: sts) (tSeq t u) (gSeqS g1 g2) := ⟨pss_cons h.ps h2.ps, h.hK, s_seq h.ss h2.ss⟩

theorem z_ret (h : PD X K W Δ e te (.v av true) g) : SD X K W .n Δ Δn Δb Δc (.Return (some e) pos) (tRet te) (gRet g) := ⟨ps_ret h.pe, h.hK, s_ret h.se⟩
theorem z_retL (h : PD X K W Δ e te (.new .l true) g) : SD X K W .l Δ Δn Δb Δc (.Return (some e) pos) (tRet te) (gRet g) := ⟨ps_ret h.pe, h.hK, s_retL h.se⟩
theorem z_retO (i : Nat) {x : Str} {p : Pos} (hk : Δ[i]? = some (.own .l true) := by rfl) (hN : X.N[i]? = some x := by rfl) (hv : Vis X.env.scope x := by first | exact Or.inl rfl | exact Or.inr (Or.inl rfl) | exact Or.inr (Or.inr rfl)) (hd : (x == ("__debug__" : Str)) = false := by decide)
    (hcd : (x == ("__classdict__" : Str)) = false := by decide) (hK : X.K = K := by rfl) : SD X K W .l Δ Δn Δb Δc (.Return (some (.Name x p)) pos) (tRet (tVar i)) (gRet (gVar i)) := ⟨ps_ret (pe_var hN hv hd hcd), hK, s_retO hk⟩
theorem z_retOp (i : Nat) {x : Str} {p : Pos} (hk : Δ[i]? = some (.own .l fr) := by rfl) (hN : X.N[i]? = some x := by rfl) (hv : Vis X.env.scope x := by first | exact Or.inl rfl | exact Or.inr (Or.inl rfl) | exact Or.inr (Or.inr rfl)) (hd : (x == ("__debug__" : Str)) = false := by decide)
    (hcd : (x == ("__classdict__" : Str)) = false := by decide) (hK : X.K = K := by rfl) : SD X K W .l Δ Δn Δb Δc (.Return (some (.Name x p)) pos) (tRet (tVar i)) (gRet (gPurV i)) := ⟨ps_ret (pe_var hN hv hd hcd), hK, s_retOp hk⟩
theorem z_expr (h : PD X K W Δ e te k g) (hs : swapsWith e none pos.line X.env = pure false := by rfl) : SD X K W L Δ Δ Δb Δc (.Expr e pos) (tDrop te) (gDrop g) := ⟨ps_expr h.pe hs, h.hK, s_drop h.se⟩
theorem z_set (i : Nat) {x : Str} (hN : X.N.Nodup) (h : PD X K W Δ e te (.v true fr) g) (hn : i < Δ.length := by decide) (hi : X.N[i]? = some x := by rfl) (hx : Loc X.env.scope x := by first | exact .inl rfl | exact .inr rfl) (hs : swapsWith e (some (.Name x pos')) pos.line X.env = pure false := by rfl) (hf : X.fn x = true ∨ X.env.scope.names.lookup x = some .local := by first | exact .inl rfl | exact .inr rfl) :
    SD X K W L Δ (Δ.set i (.im fr)) Δb Δc (.Assign [.Name x pos'] e pos) (tAsg te (gName i)) (gSet i g) := ⟨ps_set hN hi hx h.pe hs hf, h.hK, s_set hn h.se⟩
theorem z_setO (i : Nat) {x : Str} {ct : Ct} (hN : X.N.Nodup) (h : PD X K W Δ e te (.new ct fr) g) (hn : i < Δ.length := by decide) (hct : isArg ct = false := by rfl) (hi : X.N[i]? = some x := by rfl) (hx : Loc X.env.scope x := by first | exact .inl rfl | exact .inr rfl) (hs : swapsWith e (some (.Name x pos')) pos.line X.env = pure false := by rfl) (hf : X.fn x = true ∨ X.env.scope.names.lookup x = some .local := by first | exact .inl rfl | exact .inr rfl) :
    SD X K W L Δ (Δ.set i (.own ct fr)) Δb Δc (.Assign [.Name x pos'] e pos) (tAsg te (gName i)) (gSet i g) := ⟨ps_set hN hi hx h.pe hs hf, h.hK, s_setO hn h.se hct⟩
/-- y = [..] on one line, y a local -/
theorem z_setLc (i : Nat) {y : Str} {py : Pos} {n : Nat} {scope : Scope} (own : List (Str × Nat)) {wi : TI} {gg : TG} {sl : List Nat} {hh : Dt → List Dt → O (List Dt)} {TK : Bool → List Kd → List Kd} {bb : Bool} (hN : X.N.Nodup) (hi : ID X K W Δ tg iter wi bb fr gI) (ok : blkC X.N X.env.scope scope own = true)
    (hg : ∀ (s : Shared) (H : Hp) (C : Addr) (cl : List (Str × Addr)) (fp : List Addr), GD (X.blk s H scope (compEnvC scope cl C X.env) fp) K n tg gg sl hh TK)
    (ht : ∀ (s : Shared) (H : Hp) (C : Addr) (cl : List (Str × Addr)) (fp : List Addr), TsD (X.blk s H scope (compEnvC scope cl C X.env) fp) K (TK fr (wipeK Δ (own.map (·.2)))) ifs tt gt)
    (he : ∀ (s : Shared) (H : Hp) (C : Addr) (cl : List (Str × Addr)) (fp : List Addr), PD (X.blk s H scope (compEnvC scope cl C X.env) fp) K W0 (TK fr (wipeK Δ (own.map (·.2)))) elt te (.v true fr') ge)
    (hsw : swapsWith (.ListComp elt [⟨tg, iter, ifs, 0⟩] scope pos) (some (.Name y py)) pos'.line X.env = pure true) (hin : i < Δ.length := by decide) (hy : X.N[i]? = some y := by rfl) (hyl : X.env.scope.names.lookup y = some .local := by rfl)
    (hn : Δ.length = n := by rfl) (hsl : ∀ i ∈ sl, i ∈ own.map (·.2) := by decide) (no : noOwn Δ (own.map (·.2)) = true := by rfl) (hc : X.calm = true := by rfl) (hs : ∀ x, foldedSetIterable iter X.env x = pure x := by intro _; rfl) :
    SD X K W L Δ (Δ.set i (.own .l fr')) Δb Δc (.Assign [.Name y py] (.ListComp elt [⟨tg, iter, ifs, 0⟩] scope pos) pos') (tAsg (tLc wi gg tt te (own.map (·.2))) (gName i)) (gSet i (gLc gI hh gt ge)) :=
  ⟨ps_setLc hc hN hy hyl hsw hi.pi (blkOk_by ok) (fun s H C cl fp => (hg s H C cl fp).pg) (fun s H C cl fp => (ht s H C cl fp).pts) (fun s H C cl fp => (he s H C cl fp).pe) hs, hi.hK,
    s_setO hin (se_lc hi.si (hg X.s_0 X.H_0 0 [] []).gj hn hsl no (ht X.s_0 X.H_0 0 [] []).st (he X.s_0 X.H_0 0 [] []).se)⟩
theorem z_asg {n : Nat} {gg : TG} {sl : List Nat} {hh : Dt → List Dt → O (List Dt)} {TK : Bool → List Kd → List Kd} (h : PD X K W Δ e te (.v true fr) g) (hg : GD X K n tg gg sl hh TK) (hn : Δ.length = n := by rfl) (hs : swapsWithSole [tg] e pos.line X.env = pure false := by rfl) (hw : swappedStores [tg] e X.env = pure none := by rfl)
    (h1 : (assignEach [tg] X.env).map (·.2) = [assign tg X.env] := by rfl) : SD X K W L Δ (TK fr Δ) Δb Δc (.Assign [tg] e pos) (tAsg te gg) (gAsg g hh) := ⟨ps_asg h.pe hg.pg hs hw h1, h.hK, s_asg hn h.se hg.gj⟩
theorem z_par (i j : Nat) {x y : Str} {px py pt : Pos} {kt k2 : Nat} {pt2 : Pos} (hN : X.N.Nodup) (h : AD X K W Δ [a, b] tA true fr gA) (hij : i ≠ j := by decide) (hni : i < Δ.length := by decide) (hnj : j < Δ.length := by decide) (hi : X.N[i]? = some x := by rfl) (hj : X.N[j]? = some y := by rfl) (hx : X.env.scope.names.lookup x = some .local := by rfl) (hy : X.env.scope.names.lookup y = some .local := by rfl)
    (hw : swappedStores [.Tuple [.Name x px, .Name y py] kt pt] (.Tuple [a, b] k2 pt2) X.env = pure (some [x, y]) := by rfl) (hc : X.calm = true := by rfl) (hs : swapsWithSole [.Tuple [.Name x px, .Name y py] kt pt] (.Tuple [a, b] k2 pt2) pos.line X.env = pure false := by rfl) :
    SD X K W L Δ ((Δ.set i (.im fr)).set j (.im fr)) Δb Δc (.Assign [.Tuple [.Name x px, .Name y py] kt pt] (.Tuple [a, b] k2 pt2) pos) (tPar i j tA) (gPar i j gA) := ⟨ps_par hc hN hi hj hij hx hy h.pa hw hs, h.hK, s_par hni hnj h.sa⟩
theorem z_augA (i : Nat) {x : Str} (hN : X.N.Nodup) (h : PD X K W Δ e te (.v av' fr') g) (hk : Δ[i]? = some (.im fr) := by rfl) (hi : X.N[i]? = some x := by rfl) (hx : Loc X.env.scope x := by first | exact .inl rfl | exact .inr rfl) (hf : X.fn x = true ∨ X.env.scope.names.lookup x = some .local := by first | exact .inl rfl | exact .inr rfl) :
    SD X K W L Δ (Δ.set i (.im true)) Δb Δc (.AugAssign (.Name x pos') .Add e pos) (tAug i te (ipI fun i j => i + j)) (gAug (fun i j => i + j) i g) := ⟨ps_aug hN hi hx h.pe ip_add hf, h.hK, s_aug hk h.se⟩
theorem z_augS (i : Nat) {x : Str} (hN : X.N.Nodup) (h : PD X K W Δ e te (.v av' fr') g) (hk : Δ[i]? = some (.im fr) := by rfl) (hi : X.N[i]? = some x := by rfl) (hx : Loc X.env.scope x := by first | exact .inl rfl | exact .inr rfl) (hf : X.fn x = true ∨ X.env.scope.names.lookup x = some .local := by first | exact .inl rfl | exact .inr rfl) :
    SD X K W L Δ (Δ.set i (.im true)) Δb Δc (.AugAssign (.Name x pos') .Sub e pos) (tAug i te (ipI fun i j => i - j)) (gAug (fun i j => i - j) i g) := ⟨ps_aug hN hi hx h.pe ip_sub hf, h.hK, s_aug hk h.se⟩
theorem z_app (i : Nat) {x : Str} {p p1 p2 : Pos} (h : PD X K W Δ e te (.v true fr') g) (hk : Δ[i]? = some (.own .l fr) := by rfl) (hv : Vis X.env.scope x := by first | exact Or.inl rfl | exact Or.inr (Or.inl rfl) | exact Or.inr (Or.inr rfl)) (hN : X.N[i]? = some x := by rfl) (hd : (x == ("__debug__" : Str)) = false := by decide) (hcd : (x == ("__classdict__" : Str)) = false := by decide)
    (hbase : attributeBase (.Name x p) "append" X.env (eval (.Name x p) X.env) = eval (.Name x p) X.env := by rfl)
    (hfew : ((backTo p2 (starEach [e] X.env)).all (fun x => !x.1) && (backToKw p2 (keywordEach [] X.env)).all (fun x => x.1.isSome)
      && decide ([e].length + ([] : List Keyword).length + (if ([] : List Keyword).isEmpty then 0 else 1) < 30)) = true := by rfl)
    (hline : (p1.endLine == p2.line) = true := by rfl) (hst : starEach [e] X.env = (false, eval e X.env) :: starEach [] X.env := by rfl) (hplain : (backTo p2 (starEach [] X.env)).any (·.1) = false := by rfl)
    (hs : swapsWith (.Call (.Attribute (.Name x p) "append" p1) [e] [] p2) none pos.line X.env = pure false := by rfl) :
    SD X K W L Δ (Δ.set i (.own .l (fr && fr'))) Δb Δc (.Expr (.Call (.Attribute (.Name x p) "append" p1) [e] [] p2) pos) (tDrop (tBM K "list" rAppend (tVar i) (tCons te tNil))) (gApp i g) :=
  ⟨by have q := ps_expr (pos := pos) (pe_bm PySem.F.plainAttrs_list PySem.F.slot_list_append PySem.F.type_list_append mt_append (pe_var hN hv hd hcd) (pa_cons h.pe pa_nil hst) hbase hfew hline hst hplain) hs; rw [h.hK] at q; exact q, h.hK, s_app hk h.se⟩
theorem z_ext (i : Nat) {x : Str} {p p1 p2 : Pos} (h : PD X K W Δ e te (.new .l fr') g) (hk : Δ[i]? = some (.own .l fr) := by rfl) (hv : Vis X.env.scope x := by first | exact Or.inl rfl | exact Or.inr (Or.inl rfl) | exact Or.inr (Or.inr rfl)) (hN : X.N[i]? = some x := by rfl) (hd : (x == ("__debug__" : Str)) = false := by decide) (hcd : (x == ("__classdict__" : Str)) = false := by decide)
    (hbase : attributeBase (.Name x p) "extend" X.env (eval (.Name x p) X.env) = eval (.Name x p) X.env := by rfl)
    (hfew : ((backTo p2 (starEach [e] X.env)).all (fun x => !x.1) && (backToKw p2 (keywordEach [] X.env)).all (fun x => x.1.isSome)
      && decide ([e].length + ([] : List Keyword).length + (if ([] : List Keyword).isEmpty then 0 else 1) < 30)) = true := by rfl)
    (hline : (p1.endLine == p2.line) = true := by rfl) (hst : starEach [e] X.env = (false, eval e X.env) :: starEach [] X.env := by rfl) (hplain : (backTo p2 (starEach [] X.env)).any (·.1) = false := by rfl)
    (hs : swapsWith (.Call (.Attribute (.Name x p) "extend" p1) [e] [] p2) none pos.line X.env = pure false := by rfl) :
    SD X K W L Δ (Δ.set i (.own .l (fr && fr'))) Δb Δc (.Expr (.Call (.Attribute (.Name x p) "extend" p1) [e] [] p2) pos) (tDrop (tBM K "list" rExtend (tVar i) (tCons te tNil))) (gExt i g) :=
  ⟨by have q := ps_expr (pos := pos) (pe_bm PySem.F.plainAttrs_list PySem.F.slot_list_extend PySem.F.type_list_extend mt_extend (pe_var hN hv hd hcd) (pa_cons h.pe pa_nil hst) hbase hfew hline hst hplain) hs; rw [h.hK] at q; exact q, h.hK, s_ext hk h.se⟩
theorem z_setI (i : Nat) {x : Str} {p : Pos} {ix : Expr} {sp : Pos} (h : PD X K W Δ e te (.v true fr') ge) (h2 : PD X K W Δ ix ti (.v av av') gi) (hk : Δ[i]? = some (.own .l fr) := by rfl) (hv : Vis X.env.scope x := by first | exact Or.inl rfl | exact Or.inr (Or.inl rfl) | exact Or.inr (Or.inr rfl)) (hN : X.N[i]? = some x := by rfl) (hd : (x == ("__debug__" : Str)) = false := by decide) (hcd : (x == ("__classdict__" : Str)) = false := by decide)
    (ha : ∀ v, assign (.Subscript (.Name x p) ix sp) X.env v = (do
      let ov ← holding [v] (eval (.Name x p) X.env)
      let iv ← holding [v, ov] (eval ix X.env)
      standAt sp
      holding [v, ov, iv] (setItem ov iv v)
      release [v, ov, iv] []) := by intro _; rfl) (hs : swapsWithSole [.Subscript (.Name x p) ix sp] e pos.line X.env = pure false := by rfl) (hw : swappedStores [.Subscript (.Name x p) ix sp] e X.env = pure none := by rfl)
    (h1 : (assignEach [.Subscript (.Name x p) ix sp] X.env).map (·.2) = [assign (.Subscript (.Name x p) ix sp) X.env] := by rfl) :
    SD X K W L Δ (Δ.set i (.own .l (fr && fr'))) Δb Δc (.Assign [.Subscript (.Name x p) ix sp] e pos) (tAsg te (gSub (tVar i) ti rSetL)) (gSetI i ge gi) := ⟨ps_asg h.pe (pg_sub (pe_var hN hv hd hcd) h2.pe set_list ha) hs hw h1, h.hK, s_setI hk h.se h2.se⟩
theorem z_if (h : TD X K W Δ c tt gt) (h1 : BD X K W L Δ Δn Δb Δc sts t g1) (h2 : BD X K W L Δ Δn Δb Δc sts2 u g2) : SD X K W L Δ Δn Δb Δc (.If c sts sts2 pos) (tIfS tt t u) (gIfS gt g1 g2) := ⟨ps_if h.pt h1.ps h2.ps, h.hK, s_if h.st h1.ss h2.ss⟩
theorem z_pass (hK : X.K = K := by rfl) : SD X K W L Δ Δ Δb Δc (.Pass pos) tNext gNext := ⟨ps_pass, hK, s_next⟩
theorem z_while (n : Nat) (hp : PassesOwn (model X.prog X.w) X.A X.env X.xe) (h : TD X K W Δ c tt gt) (hb : BD X K W L Δ Δ Δ Δ sts t g1) : SD X K W L Δ Δ Δb Δc (.While c sts [] pos) (tWhile tt t) (gWhile gt g1 n) := ⟨ps_while hp h.pt hb.ps, h.hK, s_while n h.st hb.ss⟩
theorem z_for {n : Nat} {wi : TI} {gg : TG} {sl : List Nat} {hh : Dt → List Dt → O (List Dt)} {TK : Bool → List Kd → List Kd} (hp : PassesOwn (model X.prog X.w) X.A X.env X.xe) (hi : ID X K W Δ tg iter wi false fr gI) (hg : GD X K n tg gg sl hh TK) (hb : BD X K W L (TK fr Δ) Δ Δ Δ sts t g1) (hn : Δ.length = n := by rfl) (hc : X.calm = true := by rfl)
    (hs : ∀ x, foldedSetIterable iter X.env x = pure x := by intro _; rfl) : SD X K W L Δ Δ Δb Δc (.For tg iter sts [] pos) (tFor wi gg t) (gFor gI hh g1) := ⟨ps_for hp hc hi.pi hg.pg hb.ps hs, hi.hK, s_for hn hi.si hg.gj hb.ss⟩
end

/-! ### defs -/
def fnN (m : Nat) (g : Gs) : List Dt → O Dt := fun ds => match g (ds ++ List.replicate (m - ds.length) .none) with
  | .ok (.rt d) => .ok d
  | .ok (.nx _) => .ok .none
  | _ => .bad
def fnL (m : Nat) (g : Gs) : List Dt → O Dt := fun ds => match g (ds ++ List.replicate (m - ds.length) .none) with
  | .ok (.rt d) => .ok d
  | _ => .bad
def kd0 (n m : Nat) (fr : Bool) : List Kd := List.replicate n (.im fr) ++ List.replicate (m - n) .no
theorem r_start {K : PySem.W.Frag} {H : Hp} {F G : Addr → Prop} {vs : List V} {ds : List Dt} {n m : Nat} {fr : Bool} {N : List Str} (hv : vs.length = n) (hN : N.length = m) (hm : n ≤ m) (x : RpA K F H vs ds) (hg : ∀ a, H a = none → G a) (hF : fr = true → ∀ a, F a → G a) :
    R K ⟨H, G, [], [], none⟩ (kd0 n m fr) (ds ++ List.replicate (m - ds.length) .none) (L2.start N vs) H := by
  have hd : ds.length = n := by rw [← x.length]; exact hv
  have noOw : ∀ (i : Nat) (c : Ct) (fr' : Bool), (kd0 n m fr)[i]? ≠ some (.own c fr') := fun i c fr' e => by
    unfold kd0 at e
    have := List.mem_of_getElem? e
    rcases List.mem_append.mp this with h | h
    · cases List.eq_of_mem_replicate h
    · cases List.eq_of_mem_replicate h
  refine ⟨Same.refl H, hg, ?_, ?_, fun i j ci fi cj fj p h1 => absurd h1 (noOw i ci fi), fun a ha => absurd ha (by simp), fun g hg => absurd hg (by simp), fun i fr' h => ?_, fun i c fr' h => absurd h (noOw i c fr'), fun i c fr' h => absurd h (noOw i c fr')⟩
  · unfold L2.start kd0
    rw [List.length_append, List.length_append, List.length_map, List.length_replicate, List.length_replicate, List.length_replicate, hv, hN]
  · unfold kd0
    rw [List.length_append, List.length_append, List.length_replicate, List.length_replicate, List.length_replicate, hd]
  · unfold kd0 at h
    by_cases hi : i < n
    · rw [List.getElem?_append_left (by rw [List.length_replicate]; exact hi)] at h
      have efr : fr' = fr := by
        have := List.eq_of_mem_replicate (List.mem_of_getElem? h)
        cases this; rfl
      subst efr
      have hi' : i < vs.length := by rw [hv]; exact hi
      obtain ⟨d, h1, h2⟩ := x.get (List.getElem?_eq_getElem hi')
      refine ⟨vs[i], d, ?_, ?_, h2.weak fun a fa => ⟨fun _ => ⟨fun z => ?_, by simp⟩, fun e => hF e a fa⟩⟩
      · unfold L2.start
        rw [List.getElem?_append_left (by rw [List.length_map]; exact hi'), List.getElem?_map, List.getElem?_eq_getElem hi']
        rfl
      · rw [List.getElem?_append_left (by rw [hd]; exact hi)]
        exact h1
      · obtain ⟨j, c, frj, g1, _⟩ := z
        exact noOw j c frj g1
    · rw [List.getElem?_append_right (by rw [List.length_replicate]; omega)] at h
      cases List.eq_of_mem_replicate (List.mem_of_getElem? h)
section
variable {P : Program} {w : World} {K : PySem.W.Frag} {mg : Str → Option Value} {base : Heap} {x qual : Str} {st : Stmt} {fa : Addr} {fd : FuncData} {N ps : List Str} {k n m : Nat} {Δn : List Kd} {g : Gs}
theorem fn_okN (F : L2.Fun K x qual st fa fd) (S : FnScope N ps (defScope st)) (hn : ps.length = n) (hm : N.length = m) (hnm : n ≤ m)
    (hb : ∀ (cdv : Value) (A : Around) (outer : List Env) (s : Shared) (H : Hp) (E : XK), Room k (A.deeper (envOfC qual (defScope st) s.heap.objs.size fa cdv)) → ∃ ts, BD (cxOf CX0 P w K mg base N qual (defScope st) fa cdv A outer s H E).nox K W0 .n (kd0 n m false) Δn (kd0 n m false) (kd0 n m false) (defBody st) ts g) :
    FnOk P w K mg base CX0 (k + 1) fa fd ps (spG K mg n (fnN m g)) := by
  refine F.ok S (fun vs H Q E h => ?_) (fun cdv A outer s H vs Q E hr h => ?_)
  · obtain ⟨ds, h1, _⟩ := h
    rw [h1, hn]
  · obtain ⟨ds, h1, h2, h3⟩ := h
    obtain ⟨ts, B⟩ := hb cdv A outer s H E hr
    refine ⟨ts, B.ps, B.ss ⟨H, fun a => H a = none, [], [], none⟩ _ _ H _ (r_start h1 hm hnm h2 (fun _ h => h) (fun e => nomatch e)) ?_⟩
    unfold fnN at h3
    cases e : g (ds ++ List.replicate (m - ds.length) .none) with
    | bad => rw [e] at h3; exact h3.elim
    | ex z => rw [e] at h3; exact h3.elim
    | ok fl =>
      rw [e] at h3
      cases fl with
      | nx ρ => exact fun σ' H' r => h3 .non H' r.ext .non
      | rt d => exact fun v H' s x => h3 v H' s x
      | bk ρ => exact h3.elim
      | ct ρ => exact h3.elim
theorem fn_okL (F : L2.Fun K x qual st fa fd) (S : FnScope N ps (defScope st)) (hn : ps.length = n) (hm : N.length = m) (hnm : n ≤ m)
    (hb : ∀ (cdv : Value) (A : Around) (outer : List Env) (s : Shared) (H : Hp) (E : XK), Room k (A.deeper (envOfC qual (defScope st) s.heap.objs.size fa cdv)) → ∃ ts, BD (cxOf CX0 P w K mg base N qual (defScope st) fa cdv A outer s H E).nox K W0 .l (kd0 n m false) Δn (kd0 n m false) (kd0 n m false) (defBody st) ts g) :
    FnOk P w K mg base CX0 (k + 1) fa fd ps (spL K mg n (fnL m g)) := by
  refine F.ok S (fun vs H Q E h => ?_) (fun cdv A outer s H vs Q E hr h => ?_)
  · obtain ⟨ds, h1, _⟩ := h
    rw [h1, hn]
  · obtain ⟨ds, h1, h2, h3⟩ := h
    obtain ⟨ts, B⟩ := hb cdv A outer s H E hr
    refine ⟨ts, B.ps, B.ss ⟨H, fun a => H a = none, [], [], none⟩ _ _ H _ (r_start h1 hm hnm h2 (fun _ h => h) (fun e => nomatch e)) ?_⟩
    unfold fnL at h3
    cases e : g (ds ++ List.replicate (m - ds.length) .none) with
    | bad => rw [e] at h3; exact h3.elim
    | ex z => rw [e] at h3; exact h3.elim
    | ok fl =>
      rw [e] at h3
      cases fl with
      | nx ρ => exact h3.elim
      | rt d => exact fun p H' np s x => h3 p H' np s x
      | bk ρ => exact h3.elim
      | ct ρ => exact h3.elim
theorem fn_okA (F : L2.Fun K x qual st fa fd) (S : FnScope N ps (defScope st)) (hn : ps.length = n) (hm : N.length = m) (hnm : n ≤ m)
    (hb : ∀ (cdv : Value) (A : Around) (outer : List Env) (s : Shared) (H : Hp) (E : XK), Room k (A.deeper (envOfC qual (defScope st) s.heap.objs.size fa cdv)) → ∃ ts, BD (cxOf CX0 P w K mg base N qual (defScope st) fa cdv A outer s H E).nox K W0 .n (kd0 n m true) Δn (kd0 n m true) (kd0 n m true) (defBody st) ts g) :
    FnOk P w K mg base CX0 (k + 1) fa fd ps (spA K mg n (fnN m g)) := by
  refine F.ok S (fun vs H Q E h => ?_) (fun cdv A outer s H vs Q E hr h => ?_)
  · obtain ⟨ds, F, h1, _⟩ := h
    rw [h1, hn]
  · obtain ⟨ds, F, h1, h2, h3⟩ := h
    obtain ⟨ts, B⟩ := hb cdv A outer s H E hr
    refine ⟨ts, B.ps, B.ss ⟨H, fun a => F a ∨ H a = none, [], [], none⟩ _ _ H _ (r_start h1 hm hnm h2 (fun _ h => .inr h) (fun _ a h => .inl h)) ?_⟩
    unfold fnN at h3
    cases e : g (ds ++ List.replicate (m - ds.length) .none) with
    | bad => rw [e] at h3; exact h3.elim
    | ex z => rw [e] at h3; exact h3.elim
    | ok fl =>
      rw [e] at h3
      cases fl with
      | nx ρ => exact fun σ' H' r => h3 .non H' r.ext .non
      | rt d => exact fun v H' s x => h3 v H' s x
      | bk ρ => exact h3.elim
      | ct ρ => exact h3.elim
end
end Sim
end T_SimG

section T_SimH
set_option Elab.async false
set_option linter.all false
set_option maxRecDepth 100000
/-! SimH: comparisons as values and tests, chains; kinds said outright. -/
namespace Sim
open PySem PySem.Spec L2
open PyProof.Rows hiding St

structure OR (X : Cx) (K : PySem.W.Frag) (op : CmpOp) (r : R2) (h : Dt → Dt → O Dt) : Prop where
  ho : OpR X (compareOp op) r
  scl : Scl2 h
  osc : OSc K r h
section
variable {X : Cx} {K : PySem.W.Frag} {W : Wt} {n : Nat}
theorem or_lt : OR X K .Lt (rI0 fun i j => .bl (decide (i < j))) hLt := ⟨op_lt, scl_B0, osc_B0⟩
theorem or_le : OR X K .LtE (rI0 fun i j => .bl (decide (i ≤ j))) hLe := ⟨op_le, scl_B0, osc_B0⟩
theorem or_gt : OR X K .Gt (rI0 fun i j => .bl (decide (j < i))) hGt := ⟨op_gt, scl_B0, osc_B0⟩
theorem or_ge : OR X K .GtE (rI0 fun i j => .bl (decide (j ≤ i))) hGe := ⟨op_ge, scl_B0, osc_B0⟩
theorem or_eq (hr : Room n X.A) (hK : X.K = K := by rfl) : OR X K .Eq (rEqD K) hEq := ⟨by have q := op_eqD (X := X) (by have := hr.un; omega); rw [hK] at q; exact q, scl_eq, osc_eq⟩
theorem or_ne (hr : Room n X.A) (hK : X.K = K := by rfl) : OR X K .NotEq (rNeD K) hNe := ⟨by have q := op_neD (X := X) (by have := hr.un; omega); rw [hK] at q; exact q, scl_ne, osc_ne⟩
theorem or_in (hr : Room n X.A) (hK : X.K = K := by rfl) : OR X K .In (rInDT K false) hIn := ⟨by have q := op_inDT (X := X) (by have := hr.un; omega); rw [hK] at q; exact q, scl_in, osc_in⟩
theorem or_notIn (hr : Room n X.A) (hK : X.K = K := by rfl) : OR X K .NotIn (rInDT K true) hNotIn := ⟨by have q := op_notInDT (X := X) (by have := hr.un; omega); rw [hK] at q; exact q, scl_notIn, osc_notIn⟩
theorem or_isN : OR X K .Is (fun x y H Q => y = .non ∧ Q (.bl (decide (x = .non))) H) hIs := ⟨op_isN, scl_is, osc_is⟩
theorem or_notN : OR X K .IsNot (fun x y H Q => y = .non ∧ Q (.bl (!decide (x = .non))) H) hIsNot := ⟨op_notN, scl_isNot, osc_isNot⟩
end
def gChain (h h' : Dt → Dt → O Dt) (ga gb gc : Gd) : Gd := fun ρ => bnd (ga ρ) fun x => bnd (gb ρ) fun y => bnd (h x y) fun z => bnd (asB z) fun c => if c then bnd (gc ρ) fun w => h' y w else .ok (.bool false)
section
variable {K : PySem.W.Frag} {W : Wt} {Δ : List Kd} {ta tb tc : TE} {ga gb gc : Gd} {av fr av' fr' av2 fr2 : Bool}
theorem se_chain {r r' : R2} {h h' : Dt → Dt → O Dt} (hs : Scl2 h) (ho : OSc K r h) (hs' : Scl2 h') (ho' : OSc K r' h') (ha : SE K W Δ ta (.v av fr) ga) (hb : SE K W Δ tb (.v av' fr') gb) (hc : SE K W Δ tc (.v av2 fr2) gc) :
    SE K W Δ (tChain r r' ta tb tc) (.v true true) (gChain h h' ga gb gc) := fun f ρ σ H Q R q => by
  refine ha f ρ σ H _ R ?_
  unfold gChain at q
  cases e1 : ga ρ with
  | bad => rw [e1] at q; exact q
  | ex z => rw [e1] at q; exact q
  | ok d =>
    rw [e1, bnd_ok] at q
    intro v H1 s1 x1
    refine hb f ρ σ H1 _ (R.mono s1) ?_
    cases e2 : gb ρ with
    | bad => rw [e2] at q; exact q
    | ex z => rw [e2] at q; exact fun H' s => q H' (s1.trans s)
    | ok d2 =>
      rw [e2, bnd_ok] at q
      intro v2 H2 s2 x2
      refine ho H2 v v2 d d2 _ ((x1.same s2).weak fun _ _ => trivial) (x2.weak fun _ _ => trivial) ?_
      rcases hs d d2 with ⟨z, ez, sz⟩ | ez
      · rw [ez] at q ⊢
        rw [bnd_ok] at q
        refine ⟨sz, fun w x => ?_⟩
        cases x with
        | bl c =>
          refine ⟨c, rfl, ?_⟩
          cases c with
          | false =>
            show (if false = true then _ else _)
            rw [if_neg Bool.false_ne_true]
            exact q _ H2 (s1.trans s2) (.bl false)
          | true =>
            show (if true = true then _ else _)
            rw [if_pos rfl]
            have q : PoE K W f Δ σ H (.v true true) (bnd (gc ρ) fun w => h' d2 w) Q := q
            refine hc f ρ σ H2 _ ((R.mono s1).mono s2) ?_
            cases e3 : gc ρ with
            | bad => rw [e3] at q; exact q
            | ex z => rw [e3] at q; exact fun H' s => q H' ((s1.trans s2).trans s)
            | ok d3 =>
              rw [e3, bnd_ok] at q
              intro v3 H3 s3 x3
              refine ho' H3 v2 v3 d2 d3 Q ((x2.same s3).weak fun _ _ => trivial) (x3.weak fun _ _ => trivial) ?_
              rcases hs' d2 d3 with ⟨z, ez, sz⟩ | ez
              · rw [ez] at q ⊢
                exact ⟨sz, fun w x => q w H3 ((s1.trans s2).trans s3) (x.scl_any sz)⟩
              · rw [ez] at q
                exact q.elim
        | non => exact q.elim
        | int => exact q.elim
        | str => exact q.elim
        | lst => cases sz
        | fz => cases sz
        | tup => cases sz
      · rw [ez] at q
        exact q.elim
end
section
variable {X : Cx} {K : PySem.W.Frag} {W : Wt} {Δ Δ1 Δn Δb Δc : List Kd} {a b c e : Expr} {es : List Expr} {ta tb tc te : TE} {tA : TA} {ga gb gc g : Gd} {av fr av' fr' av2 fr2 : Bool} {L : Lk} {pos : Pos} {op op' : CmpOp} {r r' : R2} {h h' : Dt → Dt → O Dt} {t : TS} {g1 : Gs} {st : Stmt} {sts : List Stmt}
theorem x_cmp (o : OR X K op r h) (ha : PD X K W Δ a ta (.v av fr) ga) (hb : PD X K W Δ b tb (.v av' fr') gb) (hm : behindInMarks op b = false := by first | exact nobehind _ (by decide) (by decide) | rfl) : PD X K W Δ (.Compare a [op] [b] pos) (tOp r ta tb) (.v true true) (gOp h ga gb) := ⟨pe_cmpR o.ho ha.pe hb.pe hm, ha.hK, se_op o.scl o.osc ha.se hb.se⟩
theorem c_cmp (o : OR X K op r h) (ha : PD X K W Δ a ta (.v av fr) ga) (hb : PD X K W Δ b tb (.v av' fr') gb) (hm : behindInMarks op b = false := by first | exact nobehind _ (by decide) (by decide) | rfl) : TD X K W Δ (.Compare a [op] [b] pos) (tTest (tOp r ta tb)) (gTest (gOp h ga gb)) := ⟨pt_cmpR o.ho ha.pe hb.pe hm, ha.hK, st_test (se_op o.scl o.osc ha.se hb.se)⟩
theorem x_chain (o : OR X K op r h) (o' : OR X K op' r' h') (ha : PD X K W Δ a ta (.v av fr) ga) (hb : PD X K W Δ b tb (.v av' fr') gb) (hc : PD X K W Δ c tc (.v av2 fr2) gc) (hm : lastMarks [op, op'] [b, c] = false := by with_unfolding_all rfl) : PD X K W Δ (.Compare a [op, op'] [b, c] pos) (tChain r r' ta tb tc) (.v true true) (gChain h h' ga gb gc) :=
  ⟨pe_chain o.ho o'.ho ha.pe hb.pe hc.pe hm, ha.hK, se_chain o.scl o.osc o'.scl o'.osc ha.se hb.se hc.se⟩
theorem c_chain (o : OR X K op r h) (o' : OR X K op' r' h') (ha : PD X K W Δ a ta (.v av fr) ga) (hb : PD X K W Δ b tb (.v av' fr') gb) (hc : PD X K W Δ c tc (.v av2 fr2) gc) (hm : lastMarks [op, op'] [b, c] = false := by with_unfolding_all rfl) : TD X K W Δ (.Compare a [op, op'] [b, c] pos) (tTest (tChain r r' ta tb tc)) (gTest (gChain h h' ga gb gc)) :=
  ⟨pt_chain o.ho o'.ho ha.pe hb.pe hc.pe hm, ha.hK, st_test (se_chain o.scl o.osc o'.scl o'.osc ha.se hb.se hc.se)⟩

theorem SD.to (Δn' : List Kd) (h : SD X K W L Δ Δn Δb Δc st t g1) (l : leA Δn Δn' = true := by rfl) : SD X K W L Δ Δn' Δb Δc st t g1 := ⟨h.ps, h.hK, fun f ρ σ H E r q => h.ss f ρ σ H E r <| by
  cases e : g1 ρ with
  | bad => rw [e] at q; exact q
  | ex z => rw [e] at q; exact q
  | ok fl =>
    rw [e] at q
    cases fl with
    | nx ρ' => exact fun σ' H' r => q σ' H' (r.weak l)
    | rt d => exact q
    | bk ρ' => exact q
    | ct ρ' => exact q⟩
theorem SD.frm (Δ0 : List Kd) (h : SD X K W L Δ0 Δn Δb Δc st t g1) (l : leA Δ Δ0 = true := by rfl) : SD X K W L Δ Δn Δb Δc st t g1 := ⟨h.ps, h.hK, h.ss.pre l⟩
theorem BD.to (Δn' : List Kd) (h : BD X K W L Δ Δn Δb Δc sts t g1) (l : leA Δn Δn' = true := by rfl) : BD X K W L Δ Δn' Δb Δc sts t g1 := ⟨h.ps, h.hK, fun f ρ σ H E r q => h.ss f ρ σ H E r <| by
  cases e : g1 ρ with
  | bad => rw [e] at q; exact q
  | ex z => rw [e] at q; exact q
  | ok fl =>
    rw [e] at q
    cases fl with
    | nx ρ' => exact fun σ' H' r => q σ' H' (r.weak l)
    | rt d => exact q
    | bk ρ' => exact q
    | ct ρ' => exact q⟩
theorem BD.frm (Δ0 : List Kd) (h : BD X K W L Δ0 Δn Δb Δc sts t g1) (l : leA Δ Δ0 = true := by rfl) : BD X K W L Δ Δn Δb Δc sts t g1 := ⟨h.ps, h.hK, h.ss.pre l⟩
def gBrk : Gs := fun ρ => .ok (.bk ρ)
def gCnt : Gs := fun ρ => .ok (.ct ρ)
theorem z_brk (hK : X.K = K := by rfl) : SD X K W L Δ Δn Δ Δc (.Break pos) tBreak gBrk := ⟨ps_break, hK, s_brk⟩
theorem z_cont (hK : X.K = K := by rfl) : SD X K W L Δ Δn Δb Δ (.Continue pos) tCont gCnt := ⟨ps_continue, hK, s_cont⟩
end
section
variable {X : Cx} {K : PySem.W.Frag} {W : Wt} {Δ : List Kd} {e : Expr} {te : TE} {g : Gd} {c : Ct} {fr fr' : Bool}
theorem SE.wkN (h : SE K W Δ te (.new c fr) g) (h2 : fr' = true → fr = true) : SE K W Δ te (.new c fr') g := fun f ρ σ H Q r q =>
  h f ρ σ H Q r <| by
    cases e : g ρ with
    | bad => rw [e] at q; exact q
    | ex z => rw [e] at q; exact q
    | ok d => rw [e] at q; exact fun p H' np s x => q p H' np s (x.map (fun _ e => e) fun _ _ y => y.weak fun a fa => ⟨fa.1.weak id h2, fa.2⟩)
theorem PD.wkN (fr' : Bool) (h : PD X K W Δ e te (.new c fr) g) (h2 : fr' = true → fr = true := by decide) : PD X K W Δ e te (.new c fr') g := ⟨h.pe, h.hK, SE.wkN h.se h2⟩
theorem AD.to {es : List Expr} {tA : TA} {av fr : Bool} {gA : List Dt → O (List Dt)} (av' fr' : Bool) (h : AD X K W Δ es tA av fr gA) (h1 : av' = true → av = true := by decide) (h2 : fr' = true → fr = true := by decide) : AD X K W Δ es tA av' fr' gA := h.wk h1 h2
theorem blk_fx {N : List Str} {sc scope : Scope} {own : List (Str × Nat)} (h : blkC N sc scope own = true) (e1 : X.N = N := by rfl) (e2 : X.env.scope = sc := by rfl) : blkC X.N X.env.scope scope own = true := by
  rw [e1, e2]
  exact h
end
/-! ### a law's end: what it gives does not hang on the names -/
def spLaw (K : PySem.W.Frag) (g : List Dt → O Dt) : Sp := fun vs H Q _ => ∃ ds, vs.length = 1 ∧ RpA K (fun _ => True) H vs ds ∧ g ds = .ok (.bool true) ∧ ∀ H', Q (.bl true) H'
theorem spLaw_of {K : PySem.W.Frag} {H : Hp} {a : Addr} {ns : List Int} {g : List Dt → O Dt} (hS : SqL K H a (ns.map V.int)) (h : g [.list (ns.map .int)] = .ok (.bool true)) : spLaw K g [.ref a] H (fun v _ => v = .bl true) fun _ _ _ => False := by
  refine ⟨_, rfl, .cons ?_ .nil, h, fun _ => rfl⟩
  rcases hS with (h | ⟨o, h⟩) | h
  · exact .lst h trivial (rpA_ints ns)
  · exact .fz (.inl ⟨o, h⟩) (rpA_ints ns)
  · exact .fz (.inr h) (rpA_ints ns)
theorem okLaw_of {P : Program} {w : World} {K : PySem.W.Frag} {mg : Str → Option Value} {CX : CXT} {k : Nat} {fa : Addr} {g : List Dt → O Dt}
    (h : ∃ fd : FuncData, (∀ (s : Shared) (v : Value), BindsTo s fd ⟨[v], []⟩ [("script", v)]) ∧ ∀ base : Heap, K.In base → base.Ns mainGlobals mg → FnOk P w K mg base CX k fa fd ["script"] (spG K mg 1 g)) :
    ∃ fd : FuncData, (∀ (s : Shared) (v : Value), BindsTo s fd ⟨[v], []⟩ [("script", v)]) ∧ ∀ base : Heap, K.In base → base.Ns mainGlobals mg → FnOk P w K mg base CX k fa fd ["script"] (spLaw K g) := by
  obtain ⟨fd, h1, h2⟩ := h
  have key : ∀ vs H Q E, spLaw K g vs H Q E → spG K mg 1 g vs H Q E := fun vs H Q E ⟨ds, a, b, c, d⟩ => ⟨ds, a, b, by
    rw [c]
    intro v H' s x
    cases x
    exact d H'⟩
  refine ⟨fd, h1, fun base a b => ?_⟩
  obtain ⟨len, run⟩ := h2 base a b
  exact ⟨fun vs H Q E x => len vs H Q E (key vs H Q E x), fun A outer s H args us vs Q E hr e0 hb r x => run A outer s H args us vs Q E hr e0 hb r (key vs H Q E x)⟩
end Sim
end T_SimH

section T_SimP
set_option Elab.async false
set_option linter.all false
set_option maxRecDepth 100000
/-! SimP: plain lemmas about the closures. -/
namespace Sim
open PySem

/-! ### steps -/
theorem gVar_def (i : Nat) (ρ : List Dt) : gVar i ρ = match ρ[i]? with | some d => .ok d | none => .bad := rfl
theorem gC_def (d : Dt) (ρ : List Dt) : gC d ρ = .ok d := rfl
theorem gOp_def (h : Dt → Dt → O Dt) (a b : Gd) (ρ : List Dt) : gOp h a b ρ = bnd (a ρ) fun x => bnd (b ρ) fun y => h x y := rfl
theorem gUn_def (h : Dt → O Dt) (a : Gd) (ρ : List Dt) : gUn h a ρ = bnd (a ρ) h := rfl
theorem gNil_def (ρ : List Dt) : gNil ρ = .ok [] := rfl
theorem gCons_def (a : Gd) (b : List Dt → O (List Dt)) (ρ : List Dt) : gCons a b ρ = bnd (a ρ) fun x => bnd (b ρ) fun xs => .ok (x :: xs) := rfl
theorem gTup_ok {a : List Dt → O (List Dt)} {ρ : List Dt} {xs : List Dt} (h : a ρ = .ok xs) (hl : xs.length ≤ 100000) : gTup a ρ = .ok (.tuple xs) := by unfold gTup; rw [h, bnd_ok, if_pos hl]
theorem gTup_def (a : List Dt → O (List Dt)) (ρ : List Dt) : gTup a ρ = bnd (a ρ) fun xs => if xs.length ≤ 100000 then .ok (.tuple xs) else .bad := rfl
theorem gLst_def (a : List Dt → O (List Dt)) (ρ : List Dt) : gLst a ρ = bnd (a ρ) fun xs => if xs.length ≤ 100000 then .ok (.list xs) else .bad := rfl
theorem gIf_def (t : List Dt → O Bool) (a b : Gd) (ρ : List Dt) : gIf t a b ρ = bnd (t ρ) fun c => if c then a ρ else b ρ := rfl
theorem gTest_def (a : Gd) (ρ : List Dt) : gTest a ρ = bnd (a ρ) asB := rfl
theorem gNot_def (t : List Dt → O Bool) (ρ : List Dt) : gNot t ρ = bnd (t ρ) fun b => .ok (!b) := rfl
theorem gAnd_def (t u : List Dt → O Bool) (ρ : List Dt) : gAnd t u ρ = bnd (t ρ) fun b => if b then u ρ else .ok false := rfl
theorem gOr_def (t u : List Dt → O Bool) (ρ : List Dt) : gOr t u ρ = bnd (t ρ) fun b => if b then .ok true else u ρ := rfl
theorem gAndV_def (a b : Gd) (ρ : List Dt) : gAndV a b ρ = bnd (a ρ) fun x => bnd (asB x) fun c => if c then b ρ else .ok (.bool false) := rfl
theorem gOrV_def (a b : Gd) (ρ : List Dt) : gOrV a b ρ = bnd (a ρ) fun x => bnd (asB x) fun c => if c then .ok (.bool true) else b ρ := rfl
theorem gNotV_def (a : Gd) (ρ : List Dt) : gNotV a ρ = bnd (a ρ) fun x => bnd (asB x) fun c => .ok (.bool (!c)) := rfl
theorem gCB_def (h : List Dt → O Dt) (a : List Dt → O (List Dt)) (ρ : List Dt) : gCB h a ρ = bnd (a ρ) h := rfl
theorem gPur_def (a : Gd) (ρ : List Dt) : gPur a ρ = bnd (a ρ) fun d => if pure1 d then .ok d else .bad := rfl
theorem gPurN_def (a : Gd) (ρ : List Dt) : gPurN a ρ = bnd (a ρ) fun d => if pureIn d then .ok d else .bad := rfl
theorem gPurV_def (i : Nat) (ρ : List Dt) : gPurV i ρ = gPurN (gVar i) ρ := rfl
theorem asB_b (b : Bool) : asB (.bool b) = .ok b := rfl
theorem hAdd_i (i j : Int) : hAdd (.int i) (.int j) = .ok (.int (i + j)) := rfl
theorem hSub_i (i j : Int) : hSub (.int i) (.int j) = .ok (.int (i - j)) := rfl
theorem hLt_i (i j : Int) : hLt (.int i) (.int j) = .ok (.bool (decide (i < j))) := rfl
theorem hLe_i (i j : Int) : hLe (.int i) (.int j) = .ok (.bool (decide (i ≤ j))) := rfl
theorem hGt_i (i j : Int) : hGt (.int i) (.int j) = .ok (.bool (decide (j < i))) := rfl
theorem hGe_i (i j : Int) : hGe (.int i) (.int j) = .ok (.bool (decide (j ≤ i))) := rfl
theorem hBand_i (i j : Int) : hBand (.int i) (.int j) = .ok (.int (Builtin.bitAnd i j)) := rfl
theorem hMul_r {i j : Int} (h1 : -18446744073709551616 < j) (h2 : j < 18446744073709551616) : hMul (.int i) (.int j) = .ok (.int (i * j)) := by
  show (if cMul i j then O.ok (PyData.int (i * j)) else .bad) = _
  rw [if_pos]
  unfold cMul
  rw [Bool.or_eq_true, decide_eq_true_eq, decide_eq_true_eq]
  right; omega
theorem hMul_l {i j : Int} (h1 : -18446744073709551616 < i) (h2 : i < 18446744073709551616) : hMul (.int i) (.int j) = .ok (.int (i * j)) := by
  show (if cMul i j then O.ok (PyData.int (i * j)) else .bad) = _
  rw [if_pos]
  unfold cMul
  rw [Bool.or_eq_true, decide_eq_true_eq, decide_eq_true_eq]
  left; omega
theorem hMod_i {i j : Int} (h : 0 < j) : hMod (.int i) (.int j) = .ok (.int (i % j)) := by
  show (if cMod i j then O.ok (PyData.int (i % j)) else .bad) = _
  rw [if_pos]
  unfold cMod
  exact decide_eq_true h
theorem hDiv_i {i j : Int} (h : 0 < j) (h2 : j.natAbs < 2 ^ 400) : hDiv (.int i) (.int j) = .ok (.int (i / j)) := by
  show (if cDiv i j then O.ok (PyData.int (i / j)) else .bad) = _
  rw [if_pos]
  unfold cDiv
  rw [Bool.and_eq_true]
  exact ⟨decide_eq_true h, decide_eq_true h2⟩
theorem hDiv_s {i j : Int} (h : 0 < j) (h2 : j < 1000000000000000000000000000000000) : hDiv (.int i) (.int j) = .ok (.int (i / j)) := hDiv_i h (by omega)
theorem hShr_i {i j : Int} (h : 0 ≤ j) : hShr (.int i) (.int j) = .ok (.int (i / 2 ^ j.toNat)) := by
  show (if cShr i j then O.ok (PyData.int (i / 2 ^ j.toNat)) else .bad) = _
  rw [if_pos]
  exact decide_eq_true h
theorem hPow_10_18 : hPow (.int 10) (.int 18) = .ok (.int 1000000000000000000) := by
  show (if cPow 10 18 then O.ok (PyData.int ((10 : Int) ^ (18 : Int).toNat)) else .bad) = _
  rw [if_pos (by decide)]
  rfl
theorem hPow_10_27 : hPow (.int 10) (.int 27) = .ok (.int 1000000000000000000000000000) := by
  show (if cPow 10 27 then O.ok (PyData.int ((10 : Int) ^ (27 : Int).toNat)) else .bad) = _
  rw [if_pos (by decide)]
  rfl
theorem hPow_10_28 : hPow (.int 10) (.int 28) = .ok (.int 10000000000000000000000000000) := by
  show (if cPow 10 28 then O.ok (PyData.int ((10 : Int) ^ (28 : Int).toNat)) else .bad) = _
  rw [if_pos (by decide)]
  rfl
theorem hPow_10_29 : hPow (.int 10) (.int 29) = .ok (.int 100000000000000000000000000000) := by
  show (if cPow 10 29 then O.ok (PyData.int ((10 : Int) ^ (29 : Int).toNat)) else .bad) = _
  rw [if_pos (by decide)]
  rfl
theorem hPow_10_30 : hPow (.int 10) (.int 30) = .ok (.int 1000000000000000000000000000000) := by
  show (if cPow 10 30 then O.ok (PyData.int ((10 : Int) ^ (30 : Int).toNat)) else .bad) = _
  rw [if_pos (by decide)]
  rfl
theorem shaped_int (i : Int) : SeqAt.shaped (.int i) = true := by simp [SeqAt.shaped, PyData.canLay0, PyData.depth]
theorem shaped_bool (i : Bool) : SeqAt.shaped (.bool i) = true := by simp [SeqAt.shaped, PyData.canLay0, PyData.depth]
theorem shaped_none : SeqAt.shaped .none = true := by simp [SeqAt.shaped, PyData.canLay0, PyData.depth]
theorem hEq_i (i j : Int) : hEq (.int i) (.int j) = .ok (.bool (i == j)) := by unfold hEq; rw [shaped_int, shaped_int]; simp [PyData.eqv]
theorem hNe_i (i j : Int) : hNe (.int i) (.int j) = .ok (.bool (!(i == j))) := by unfold hNe; rw [shaped_int, shaped_int]; simp [PyData.eqv]
theorem hEq_b (i j : Bool) : hEq (.bool i) (.bool j) = .ok (.bool (i == j)) := by unfold hEq; rw [shaped_bool, shaped_bool]; simp [PyData.eqv]
theorem hNe_b (i j : Bool) : hNe (.bool i) (.bool j) = .ok (.bool (!(i == j))) := by unfold hNe; rw [shaped_bool, shaped_bool]; simp [PyData.eqv]
theorem hLen_l (xs : List Dt) : hLen [.list xs] = .ok (.int xs.length) := rfl
theorem hLen_t (xs : List Dt) : hLen [.tuple xs] = .ok (.int xs.length) := rfl
theorem hMin2_i (i j : Int) : hMin2 [.int i, .int j] = .ok (.int (if j < i then j else i)) := rfl
theorem hMax2_i (i j : Int) : hMax2 [.int i, .int j] = .ok (.int (if j > i then j else i)) := rfl
theorem hMin3_i (i j k : Int) : hMin3 [.int i, .int j, .int k] = .ok (.int (if j < i then (if k < j then k else j) else (if k < i then k else i))) := rfl
theorem hInt1_b (k : Bool) : hInt1 [.bool k] = .ok (.int (if k then 1 else 0)) := rfl
theorem hInt1_i (k : Int) : hInt1 [.int k] = .ok (.int k) := rfl
theorem hBits_i (i : Int) : hBits (.int i) = .ok (.int (Builtin.Int.intBits i : Nat)) := rfl
theorem hListOf_l (xs : List Dt) : one hListOf [.list xs] = .ok (.list xs) := rfl
theorem hListOf_t (xs : List Dt) : one hListOf [.tuple xs] = .ok (.list xs) := rfl
theorem hTupOf_l (xs : List Dt) : one hTupOf [.list xs] = .ok (.tuple xs) := rfl
theorem hTupOf_t (xs : List Dt) : one hTupOf [.tuple xs] = .ok (.tuple xs) := rfl

/-! ### statements -/
theorem seq_nx {a b : Gs} {ρ ρ' : List Dt} (h : a ρ = .ok (.nx ρ')) : gSeqS a b ρ = b ρ' := by unfold gSeqS; rw [h]
theorem seq_rt {a b : Gs} {ρ : List Dt} {d : Dt} (h : a ρ = .ok (.rt d)) : gSeqS a b ρ = .ok (.rt d) := by unfold gSeqS; rw [h]
theorem set_ok {i : Nat} {g : Gd} {ρ : List Dt} {d : Dt} (h : g ρ = .ok d) : gSet i g ρ = .ok (.nx (ρ.set i d)) := by unfold gSet; rw [h]; rfl
theorem ret_ok {g : Gd} {ρ : List Dt} {d : Dt} (h : g ρ = .ok d) : gRet g ρ = .ok (.rt d) := by unfold gRet; rw [h]; rfl
theorem if_t {t : List Dt → O Bool} {a b : Gs} {ρ : List Dt} (h : t ρ = .ok true) : gIfS t a b ρ = a ρ := by unfold gIfS; rw [h]; rfl
theorem if_f {t : List Dt → O Bool} {a b : Gs} {ρ : List Dt} (h : t ρ = .ok false) : gIfS t a b ρ = b ρ := by unfold gIfS; rw [h]; rfl
theorem gSeqS_def (a b : Gs) (ρ : List Dt) : gSeqS a b ρ = match a ρ with | .ok (.nx ρ') => b ρ' | o => o := rfl
theorem gSet_def (i : Nat) (g : Gd) (ρ : List Dt) : gSet i g ρ = bnd (g ρ) fun d => .ok (.nx (ρ.set i d)) := rfl
theorem gRet_def (g : Gd) (ρ : List Dt) : gRet g ρ = bnd (g ρ) fun d => .ok (.rt d) := rfl
theorem gIfS_def (t : List Dt → O Bool) (a b : Gs) (ρ : List Dt) : gIfS t a b ρ = bnd (t ρ) fun c => if c then a ρ else b ρ := rfl
theorem gNext_def (ρ : List Dt) : gNext ρ = .ok (.nx ρ) := rfl
theorem gApp_l {i : Nat} {g : Gd} {ρ : List Dt} {ds : List Dt} {d : Dt} (h1 : ρ[i]? = some (.list ds)) (h2 : g ρ = .ok d) (h3 : ds.length < 100000) : gApp i g ρ = .ok (.nx (ρ.set i (.list (ds ++ [d])))) := by
  unfold gApp
  rw [h1]
  simp only [h2, bnd_ok]
  rw [if_pos h3]
theorem gExt_l {i : Nat} {g : Gd} {ρ : List Dt} {ds es : List Dt} (h1 : ρ[i]? = some (.list ds)) (h2 : g ρ = .ok (.list es)) (h3 : ds.length + es.length ≤ 100000) : gExt i g ρ = .ok (.nx (ρ.set i (.list (ds ++ es)))) := by
  unfold gExt
  rw [h1]
  simp only [h2, bnd_ok]
  rw [if_pos h3]
theorem callN_ok {n : Nat} {g : List Dt → O Dt} {gA : List Dt → O (List Dt)} {ρ ds : List Dt} {d : Dt} (h1 : gA ρ = .ok ds) (h2 : ds.length = n) (h3 : g ds = .ok d) : gCallN n g gA ρ = .ok d := by
  unfold gCallN
  rw [h1, bnd_ok, if_pos h2, h3]
theorem asg_ok {g : Gd} {h : Dt → List Dt → O (List Dt)} {ρ ρ' : List Dt} {d : Dt} (h1 : g ρ = .ok d) (h2 : h d ρ = .ok ρ') : gAsg g h ρ = .ok (.nx ρ') := by
  unfold gAsg
  rw [h1, bnd_ok, h2]
theorem fnN_rt {m : Nat} {g : Gs} {ds : List Dt} {d : Dt} (h : g (ds ++ List.replicate (m - ds.length) .none) = .ok (.rt d)) : fnN m g ds = .ok d := by unfold fnN; rw [h]
theorem fnL_rt {m : Nat} {g : Gs} {ds : List Dt} {d : Dt} (h : g (ds ++ List.replicate (m - ds.length) .none) = .ok (.rt d)) : fnL m g ds = .ok d := by unfold fnL; rw [h]

/-! ### walks and comprehensions -/
theorem lcE_map {α : Type} (enc : α → Dt) (p : α → Bool) (q : α → Dt) {h : Dt → List Dt → O (List Dt)} {gt : List Dt → O Bool} {ge : Gd} {ρ : List Dt} : ∀ (xs : List α), (∀ x ∈ xs, ∃ ρ', h (enc x) ρ = .ok ρ' ∧ gt ρ' = .ok (p x) ∧ (p x = true → ge ρ' = .ok (q x))) →
    lcE h gt ge ρ (xs.map enc) = .ok ((xs.filter p).map q)
  | [], _ => rfl
  | x :: xs, H => by
    obtain ⟨ρ', h1, h2, h3⟩ := H x List.mem_cons_self
    have ih := lcE_map enc p q xs fun y hy => H y (List.mem_cons_of_mem _ hy)
    rw [List.map_cons]
    unfold lcE
    rw [h1, bnd_ok, h2, bnd_ok]
    cases hp : p x with
    | true => rw [if_pos rfl, h3 hp, bnd_ok, ih, bnd_ok, List.filter_cons_of_pos hp, List.map_cons]
    | false => rw [if_neg Bool.false_ne_true, ih, List.filter_cons_of_neg (by rw [hp]; exact Bool.false_ne_true)]
theorem gLc_map {α : Type} (enc : α → Dt) (p : α → Bool) (q : α → Dt) {gi : List Dt → O (List Dt)} {h : Dt → List Dt → O (List Dt)} {gt : List Dt → O Bool} {ge : Gd} {ρ : List Dt} {xs : List α} (h1 : gi ρ = .ok (xs.map enc)) (h2 : xs.length ≤ 100000)
    (H : ∀ x ∈ xs, ∃ ρ', h (enc x) ρ = .ok ρ' ∧ gt ρ' = .ok (p x) ∧ (p x = true → ge ρ' = .ok (q x))) : gLc gi h gt ge ρ = .ok (.list ((xs.filter p).map q)) := by
  unfold gLc
  rw [h1, bnd_ok, if_pos (by rw [List.length_map]; exact h2), lcE_map enc p q xs H]
/-- a for whose turns go on: the state is a fold -/
theorem forE_fold {α β : Type} (enc : α → Dt) (st : β → List Dt) (step : β → α → β) {h : Dt → List Dt → O (List Dt)} {b : Gs} (I : List α → β → Prop) : ∀ (xs : List α) (pre : List α) (s : β), I pre s →
    (∀ pre x s, x ∈ xs → I pre s → (∃ ρ1, h (enc x) (st s) = .ok ρ1 ∧ (b ρ1 = .ok (.nx (st (step s x))) ∨ b ρ1 = .ok (.ct (st (step s x))))) ∧ I (pre ++ [x]) (step s x)) →
    forE h b (xs.map enc) (st s) = .ok (.nx (st (xs.foldl step s))) ∧ I (pre ++ xs) (xs.foldl step s)
  | [], pre, s, hi, _ => ⟨rfl, by rw [List.append_nil]; exact hi⟩
  | x :: xs, pre, s, hi, H => by
    obtain ⟨⟨ρ1, h1, h2⟩, h3⟩ := H pre x s List.mem_cons_self hi
    have ih := forE_fold enc st step I xs (pre ++ [x]) (step s x) h3 fun pre y s hy hi => H pre y s (List.mem_cons_of_mem _ hy) hi
    rw [List.append_assoc] at ih
    refine ⟨?_, ih.2⟩
    rw [List.map_cons]
    unfold forE
    rw [h1]
    simp only
    rcases h2 with h2 | h2
    · rw [h2, bnd_ok]; exact ih.1
    · rw [h2, bnd_ok]; exact ih.1
/-- a for by an invariant over the states themselves -/
theorem forE_inv {α : Type} (enc : α → Dt) {h : Dt → List Dt → O (List Dt)} {b : Gs} (I : List α → List Dt → Prop) : ∀ (xs : List α) (pre : List α) (ρ : List Dt), I pre ρ →
    (∀ pre x ρ, x ∈ xs → I pre ρ → ∃ ρ1 ρ2, h (enc x) ρ = .ok ρ1 ∧ (b ρ1 = .ok (.nx ρ2) ∨ b ρ1 = .ok (.ct ρ2)) ∧ I (pre ++ [x]) ρ2) →
    ∃ ρ', forE h b (xs.map enc) ρ = .ok (.nx ρ') ∧ I (pre ++ xs) ρ'
  | [], pre, ρ, hi, _ => ⟨ρ, rfl, by rw [List.append_nil]; exact hi⟩
  | x :: xs, pre, ρ, hi, H => by
    obtain ⟨ρ1, ρ2, h1, h2, h3⟩ := H pre x ρ List.mem_cons_self hi
    obtain ⟨ρ', ih1, ih2⟩ := forE_inv enc I xs (pre ++ [x]) ρ2 h3 fun pre y s hy hi => H pre y s (List.mem_cons_of_mem _ hy) hi
    rw [List.append_assoc] at ih2
    refine ⟨ρ', ?_, ih2⟩
    rw [List.map_cons]
    unfold forE
    rw [h1]
    simp only
    rcases h2 with h2 | h2
    · rw [h2, bnd_ok]; exact ih1
    · rw [h2, bnd_ok]; exact ih1
/-- a for by an invariant over the turn's number -/
theorem forE_ix {α : Type} (enc : α → Dt) {h : Dt → List Dt → O (List Dt)} {b : Gs} (xs : List α) (I : Nat → List Dt → Prop) {ρ : List Dt} (h0 : I 0 ρ)
    (H : ∀ i ρ (hi : i < xs.length), I i ρ → ∃ ρ1 ρ2, h (enc xs[i]) ρ = .ok ρ1 ∧ (b ρ1 = .ok (.nx ρ2) ∨ b ρ1 = .ok (.ct ρ2)) ∧ I (i + 1) ρ2) :
    ∃ ρ', forE h b (xs.map enc) ρ = .ok (.nx ρ') ∧ I xs.length ρ' := by
  have key : ∀ n i ρ, i + n = xs.length → I i ρ → ∃ ρ', forE h b ((xs.drop i).map enc) ρ = .ok (.nx ρ') ∧ I xs.length ρ' := by
    intro n
    induction n with
    | zero =>
      intro i ρ e hi
      have e : i = xs.length := by omega
      subst e
      rw [List.drop_length]
      exact ⟨ρ, rfl, hi⟩
    | succ n ih =>
      intro i ρ e hi
      have hlt : i < xs.length := by omega
      obtain ⟨ρ1, ρ2, h1, h2, h3⟩ := H i ρ hlt hi
      obtain ⟨ρ', q1, q2⟩ := ih (i + 1) ρ2 (by omega) h3
      refine ⟨ρ', ?_, q2⟩
      rw [List.drop_eq_getElem_cons hlt, List.map_cons]
      unfold forE
      rw [h1]
      simp only
      rcases h2 with h2 | h2
      · rw [h2, bnd_ok]; exact q1
      · rw [h2, bnd_ok]; exact q1
  have := key xs.length 0 ρ (by omega) h0
  rwa [List.drop_zero] at this
theorem for_ok {gi : List Dt → O (List Dt)} {h : Dt → List Dt → O (List Dt)} {b : Gs} {ρ : List Dt} {ds : List Dt} {z : O Fl} (h1 : gi ρ = .ok ds) (h2 : forE h b ds ρ = z) : gFor gi h b ρ = z := by unfold gFor; rw [h1, bnd_ok, h2]
theorem while_f {t : List Dt → O Bool} {b : Gs} {n : Nat} {ρ : List Dt} (h : t ρ = .ok false) (hn : n ≠ 0 := by decide) : gWhile t b n ρ = .ok (.nx ρ) := by
  cases n with
  | zero => exact absurd rfl hn
  | succ n => unfold gWhile; rw [h]; rfl
theorem while_t {t : List Dt → O Bool} {b : Gs} {n : Nat} {ρ ρ' : List Dt} (h : t ρ = .ok true) (h2 : b ρ = .ok (.nx ρ')) : gWhile t b (n + 1) ρ = gWhile t b n ρ' := by
  conv => lhs; unfold gWhile
  simp only [h, bnd_ok, if_true, h2]
theorem rng1_ok {g : List Dt → O (List Dt)} {ρ : List Dt} {j : Int} (h : g ρ = .ok [.int j]) (h1 : -4611686018427387904 ≤ j) (h2 : j < 4611686018427387904) : gRng1 g ρ = .ok (rangeD 0 j) := by
  unfold gRng1
  rw [h, bnd_ok]
  unfold rng1
  simp only
  rw [if_pos (by constructor <;> omega)]
theorem rng2_ok {g : List Dt → O (List Dt)} {ρ : List Dt} {i j : Int} (h : g ρ = .ok [.int i, .int j]) (h1 : -4611686018427387904 ≤ j) (h2 : j < 4611686018427387904) (h3 : -4611686018427387904 ≤ i) (h4 : i < 4611686018427387904) : gRng2 g ρ = .ok (rangeD i j) := by
  unfold gRng2
  rw [h, bnd_ok]
  unfold rng2
  simp only
  rw [if_pos (by refine ⟨?_, ?_, ?_, ?_⟩ <;> omega)]
theorem rangeD_nat (n : Nat) : rangeD 0 (n : Int) = (List.range n).map fun (i : Nat) => PyData.int (i : Int) := by
  unfold rangeD
  rw [Int.sub_zero, Int.toNat_natCast]
  apply List.map_congr_left
  intro i _
  rw [Int.zero_add]
theorem seqG_l {g : Gd} {ρ : List Dt} {ds : List Dt} (h : g ρ = .ok (.list ds)) : gSeq g ρ = .ok ds := by unfold gSeq; rw [h]; rfl
theorem seqG_t {g : Gd} {ρ : List Dt} {ds : List Dt} (h : g ρ = .ok (.tuple ds)) : gSeq g ρ = .ok ds := by unfold gSeq; rw [h]; rfl

/-! ### lists of ints -/
abbrev dI (i : Int) : Dt := .int i
abbrev dIs (xs : List Int) : Dt := .list (xs.map .int)
theorem allI_map : ∀ xs : List Int, allI (xs.map .int) = some xs
  | [] => rfl
  | x :: xs => by rw [List.map_cons]; unfold allI; rw [allI_map xs]; rfl
theorem allB_map : ∀ xs : List Bool, allB (xs.map .bool) = some xs
  | [] => rfl
  | x :: xs => by rw [List.map_cons]; unfold allB; rw [allB_map xs]; rfl
theorem canLay_ints : ∀ xs : List Int, PyData.canLayAll0 (xs.map .int) = true
  | [] => by simp [PyData.canLayAll0]
  | x :: xs => by simp [PyData.canLayAll0, PyData.canLay0, canLay_ints xs]
theorem depth_ints : ∀ xs : List Int, PyData.depthAll (xs.map .int) = 0
  | [] => by simp [PyData.depthAll]
  | x :: xs => by simp [PyData.depthAll, PyData.depth, depth_ints xs]
theorem shaped_ints (xs : List Int) : SeqAt.shaped (.list (xs.map .int)) = true := by simp [SeqAt.shaped, PyData.canLay0, PyData.depth, canLay_ints, depth_ints]
theorem shaped_intsT (xs : List Int) : SeqAt.shaped (.tuple (xs.map .int)) = true := by simp [SeqAt.shaped, PyData.canLay0, PyData.depth, canLay_ints, depth_ints]
theorem eqvAll_ints : ∀ xs ys : List Int, PyData.eqvAll (xs.map .int) (ys.map .int) = decide (xs = ys)
  | [], [] => by simp [PyData.eqvAll]
  | [], _ :: _ => by simp [PyData.eqvAll]
  | _ :: _, [] => by simp [PyData.eqvAll]
  | x :: xs, y :: ys => by
    simp only [List.map_cons, PyData.eqvAll, PyData.eqv, eqvAll_ints xs ys]
    by_cases h1 : x = y <;> by_cases h2 : xs = ys <;> simp [h1, h2]
theorem hEq_ints (xs ys : List Int) : hEq (.list (xs.map .int)) (.list (ys.map .int)) = .ok (.bool (decide (xs = ys))) := by
  unfold hEq; rw [shaped_ints, shaped_ints]; simp only [PyData.eqv, eqvAll_ints, Bool.and_self, if_true]
theorem hNe_ints (xs ys : List Int) : hNe (.list (xs.map .int)) (.list (ys.map .int)) = .ok (.bool (!decide (xs = ys))) := by
  unfold hNe; rw [shaped_ints, shaped_ints]; simp only [PyData.eqv, eqvAll_ints, Bool.and_self, if_true]
theorem any_ints (i : Int) : ∀ xs : List Int, ((xs.map PyData.int).any fun z => PyData.eqv z (.int i)) = decide (i ∈ xs)
  | [] => by simp
  | x :: xs => by
    rw [List.map_cons, List.any_cons, any_ints i xs]
    simp only [PyData.eqv, List.mem_cons]
    by_cases h : x = i
    · subst h; simp
    · have h' : ¬ i = x := fun e => h e.symm
      simp [h, h']
theorem hIn_ints (i : Int) (xs : List Int) : hIn (.int i) (.list (xs.map .int)) = .ok (.bool (decide (i ∈ xs))) := by
  unfold hIn; simp only [shaped_int, shaped_ints, Bool.and_self, if_true, any_ints]
theorem hNotIn_ints (i : Int) (xs : List Int) : hNotIn (.int i) (.list (xs.map .int)) = .ok (.bool (!decide (i ∈ xs))) := by
  unfold hNotIn; simp only [shaped_int, shaped_ints, Bool.and_self, if_true, any_ints]
theorem hIn_intsT (i : Int) (xs : List Int) : hIn (.int i) (.tuple (xs.map .int)) = .ok (.bool (decide (i ∈ xs))) := by
  unfold hIn; simp only [shaped_int, shaped_intsT, Bool.and_self, if_true, any_ints]
theorem hNotIn_intsT (i : Int) (xs : List Int) : hNotIn (.int i) (.tuple (xs.map .int)) = .ok (.bool (!decide (i ∈ xs))) := by
  unfold hNotIn; simp only [shaped_int, shaped_intsT, Bool.and_self, if_true, any_ints]
theorem hSorted_ints (xs : List Int) : one hSorted [.list (xs.map .int)] = .ok (.list ((isort xs).map .int)) := by
  unfold one hSorted; simp only [allI_map]
theorem pureA_ints : ∀ xs : List Int, pureA (xs.map .int) = true
  | [] => rfl
  | x :: xs => by rw [List.map_cons]; unfold pureA; rw [pureA_ints xs]; rfl
theorem atI_map {α β : Type} (f : α → β) {xs : List α} {i : Int} (h0 : 0 ≤ i) (h1 : i < xs.length) : L2.atI (xs.map f) i = some (f (xs[i.toNat]'(by omega))) := by
  obtain ⟨j, rfl⟩ : ∃ j : Nat, i = j := ⟨i.toNat, by omega⟩
  have hj : j < xs.length := by omega
  refine L2.atI_nat ?_
  rw [List.getElem?_map, List.getElem?_eq_getElem hj]
  rfl
theorem hIx_l {ds : List Dt} {i : Int} {z : Dt} (h : L2.atI ds i = some z) : hIx (.list ds) (.int i) = .ok z := by unfold hIx; simp only [h]
theorem hIx_t {ds : List Dt} {i : Int} {z : Dt} (h : L2.atI ds i = some z) : hIx (.tuple ds) (.int i) = .ok z := by unfold hIx; simp only [h]
theorem hIx_ints {xs : List Int} {i : Int} (h0 : 0 ≤ i) (h1 : i < xs.length) : hIx (.list (xs.map .int)) (.int i) = .ok (.int (xs[i.toNat]'(by omega))) := hIx_l (atI_map _ h0 h1)
theorem sIx_none (n d : Nat) : HT.sIx n d none = d := rfl
theorem cutD_from {α : Type} (f : α → Dt) (xs : List α) (k : Nat) : cutD (xs.map f) (some (k : Int)) none = (xs.drop k).map f := by
  unfold cutD
  rw [HT.sIx_nat, sIx_none, List.length_map]
  rcases Nat.lt_or_ge k xs.length with h | h
  · rw [Nat.min_eq_left (Nat.le_of_lt h), ← List.map_drop, List.take_of_length_le (by rw [List.length_map, List.length_drop]; omega)]
  · rw [Nat.min_eq_right h, List.drop_of_length_le (by rw [List.length_map]; omega), List.drop_of_length_le h]
    simp
theorem cutD_to {α : Type} (f : α → Dt) (xs : List α) (k : Nat) : cutD (xs.map f) none (some (k : Int)) = (xs.take k).map f := by
  unfold cutD
  rw [HT.sIx_nat, sIx_none, List.length_map, List.drop_zero, Nat.sub_zero, ← List.map_take]
  rcases Nat.lt_or_ge k xs.length with h | h
  · rw [Nat.min_eq_left (Nat.le_of_lt h)]
  · rw [Nat.min_eq_right h, List.take_of_length_le (Nat.le_refl _), List.take_of_length_le h]
theorem hSl_from {α : Type} (f : α → Dt) (xs : List α) (k : Nat) : hSl (.list (xs.map f)) (some (k : Int)) none = .ok (.list ((xs.drop k).map f)) := by unfold hSl; rw [← cutD_from]
theorem hSl_to {α : Type} (f : α → Dt) (xs : List α) (k : Nat) : hSl (.list (xs.map f)) none (some (k : Int)) = .ok (.list ((xs.take k).map f)) := by unfold hSl; rw [← cutD_to]
theorem hCat_l {xs ys : List Dt} (h : xs.length + ys.length ≤ 100000) : hCat (.list xs) (.list ys) = .ok (.list (xs ++ ys)) := by unfold hCat; simp only [h, if_true]
theorem hCat_map {α : Type} (f : α → Dt) (xs ys : List α) (h : xs.length + ys.length ≤ 100000) : hCat (.list (xs.map f)) (.list (ys.map f)) = .ok (.list ((xs ++ ys).map f)) := by
  rw [hCat_l (by rw [List.length_map, List.length_map]; exact h), List.map_append]
theorem hRep_l {xs : List Dt} {k : Int} (h0 : 0 ≤ k) (h1 : k < 100) (h : xs.length ≤ 1000) : hRep (.list xs) (.int k) = .ok (.list (List.replicate k.toNat xs).flatten) := by
  unfold hRep
  simp only
  rw [if_pos]
  refine ⟨by omega, by omega, ?_⟩
  have : xs.length * k.toNat ≤ 1000 * 100 := Nat.mul_le_mul h (by omega)
  omega

/-! ### sorting ints -/
theorem isort_eq {a b : List Int} (p : a.Perm b) : isort a = isort b := sorted_unique ((isort_perm a).trans (p.trans (isort_perm b).symm)) (isort_sorted a) (isort_sorted b)
theorem isort_id {a : List Int} (h : a.Pairwise (· ≤ ·)) : isort a = a := sorted_unique (isort_perm a) (isort_sorted a) h
theorem seq_step {a b : Gs} {ρ ρ' : List Dt} {z : O Fl} (h : a ρ = .ok (.nx ρ')) (k : b ρ' = z) : gSeqS a b ρ = z := by rw [seq_nx h]; exact k
theorem gCallN_def (n : Nat) (g : List Dt → O Dt) (gA : List Dt → O (List Dt)) (ρ : List Dt) : gCallN n g gA ρ = bnd (gA ρ) fun ds => if ds.length = n then (match g ds with | .ok d => .ok d | _ => .bad) else .bad := rfl
theorem gAsg_def (g : Gd) (h : Dt → List Dt → O (List Dt)) (ρ : List Dt) : gAsg g h ρ = bnd (g ρ) fun d => match h d ρ with | .ok ρ' => .ok (.nx ρ') | _ => .bad := rfl
theorem gSl_def (h : Dt → Option Int → Option Int → O Dt) (g : Gd) (gl gh : List Dt → O (Option Int)) (ρ : List Dt) : gSl h g gl gh ρ = bnd (g ρ) fun d => bnd (gl ρ) fun lo => bnd (gh ρ) fun hi => h d lo hi := rfl
theorem gNoPart_def (ρ : List Dt) : gNoPart ρ = .ok none := rfl
theorem gPart_def (g : Gd) (ρ : List Dt) : gPart g ρ = bnd (g ρ) fun d => match d with | .int i => .ok (some i) | _ => .bad := rfl
theorem hSl_from' {α : Type} (f : α → Dt) (xs : List α) {k : Int} (h : 0 ≤ k) : hSl (.list (xs.map f)) (some k) none = .ok (.list ((xs.drop k.toNat).map f)) := by
  have := hSl_from f xs k.toNat
  rwa [show ((k.toNat : Nat) : Int) = k by omega] at this
theorem hSl_to' {α : Type} (f : α → Dt) (xs : List α) {k : Int} (h : 0 ≤ k) : hSl (.list (xs.map f)) none (some k) = .ok (.list ((xs.take k.toNat).map f)) := by
  have := hSl_to f xs k.toNat
  rwa [show ((k.toNat : Nat) : Int) = k by omega] at this
/-- the places -/
def pl (n : Int) : List Int := (List.range n.toNat).map fun (i : Nat) => (i : Int)
theorem rangeD_pl (n : Int) : rangeD 0 n = (pl n).map .int := by
  unfold rangeD pl
  rw [List.map_map, Int.sub_zero]
  apply List.map_congr_left
  intro i _
  show PyData.int (0 + (i : Int)) = PyData.int (i : Int)
  rw [Int.zero_add]
theorem mem_pl {n p : Int} : p ∈ pl n ↔ 0 ≤ p ∧ p < n := by
  unfold pl
  rw [List.mem_map]
  constructor
  · rintro ⟨i, h, rfl⟩
    rw [List.mem_range] at h
    omega
  · rintro ⟨h1, h2⟩
    exact ⟨p.toNat, List.mem_range.mpr (by omega), by omega⟩
theorem pl_len (n : Int) : (pl n).length = n.toNat := by unfold pl; rw [List.length_map, List.length_range]
theorem pl_nodup (n : Int) : (pl n).Nodup := by
  unfold pl
  refine List.Pairwise.map _ (fun a b h => ?_) List.nodup_range
  omega
theorem pl_sorted (n : Int) : (pl n).Pairwise (· < ·) := by
  unfold pl
  refine List.Pairwise.map _ (fun a b h => ?_) List.pairwise_lt_range
  omega
theorem map_snoc (xs : List Int) (z : Int) : xs.map PyData.int ++ [PyData.int z] = (xs ++ [z]).map PyData.int := by rw [List.map_append]; rfl
end Sim
end T_SimP

section T_SimI
set_option Elab.async false
set_option linter.all false
set_option maxRecDepth 100000
/-! SimI: isinstance, what is never reached, enumerate, reversed, zip, list(range), list(reversed). -/
namespace Sim
open PySem PySem.Spec L2
open PyProof.Rows hiding St

/-! ### list(reversed(list)) -/
section
variable {prog : Program} {w : World} {A : Around} {E : Value → Shared → Prop} {s : Shared}
theorem extend_rev {R : Result → Shared → Prop} {it l : Addr} {items : Array Value} (hh : A.handled = none) (hit : s.heap.IsRevIter it l ((items.size : Int) - 1)) (hl : s.heap.IsList l items) (hne : l ≠ it) (hn : items.size ≤ sizeLine)
    (S : Addr) (res : Value) {c₀ : Nat} (hS : s.heap.get? S = some { cls := .type "list", data := .seq #[] c₀ })
    (hSi : S ≠ it) (hSl : S ≠ l)
    (hR : ∀ h' tk acc' c', (∀ b o, b ≠ S → b ≠ it → s.heap.get? b = some o → h'.get? b = some o) → h'.get? S = some { cls := .type "list", dict := none, data := .seq acc' c', slots := #[] } →
      ItemsOf (fun i v => items[items.size - 1 - i]? = some v) acc' items.size → R (.ok (.ret res)) { s with heap := h', toks := tk }) :
    wpAny (model prog w) A.in1 (Builtin.List.listExtendWith (.ref S) (.ref it) res)
      (fun fin s' => match fin with | .done f => R (.ok f) s' | .again c' => c'.quiet = true ∧ codeAny (model prog w) A c' R s') (fun e s' => R (.error e) s') s := by
  have W := (Walks.listRev (prog := prog) (w := w) (A := A.in1) hh it l hne items).toS
  have hSf : S ∉ [it, l] := by simp only [List.mem_cons, List.not_mem_nil, or_false, not_or]; exact ⟨hSi, hSl⟩
  have hT : s.TypeIs (.ref it) "list_reverseiterator" := hit.typeIs
  have h1 : Builtin.List.listSameRef (.ref S) (.ref it) = false := by simp [Builtin.List.listSameRef, hSi]
  unfold Builtin.List.listExtendWith
  refine wpAny_bind (wpAny_typeOf hT ?_)
  rw [if_neg (by rw [h1]; decide)]
  refine wpAny_bind (wpAny_pyIter_revIter hit ?_)
  refine wpAny_bind (wpAny_holding ?_)
  unfold Builtin.List.listLengthHint
  refine wpAny_bind (wpAny_specialOf hT RT.nolen_lri ?_)
  show wpAny _ A.in1 (specialOf (Value.ref it) (Str.ofString "__length_hint__") >>= _) _ _ _
  refine wpAny_bind (wpAny_specialOf hT RT.hint_lri ?_)
  generalize hid : ("list_reverseiterator.__length_hint__" : String) = id0
  wp_delta
  rw [show splitId id0 = some ("list_reverseiterator", "__length_hint__") from by subst hid; decide +kernel]
  subst hid
  refine wpAny_bind (wpAny_isInstance (b := true) hT (by rw [isSubtype_type]; kernel_rfl) ?_)
  refine wpAny_pure ?_
  rw [if_neg (by decide)]
  have e0 : ((items.size : Nat) : Int) - 1 - ((0 : Nat) : Int) = (items.size : Int) - 1 := by omega
  refine wpAny_pure ⟨plainId_quiet F.plain_extend_loop _, codeAny_extend_loopS W hn _ hSf _ items.size 0 _ _ _ rfl (Nat.zero_le _) ⟨Nat.zero_le _, by rw [e0]; exact hit, hl⟩ hS (ItemsOf.nil _) fun s' acc' c' hm hS' hacc => ?_⟩
  rw [Moved.eq_with hm]
  refine hR s'.heap s'.toks acc' c' (fun b o hb hb2 e => hm.heap b o (fun hmem => ?_) e) hS' hacc
  rcases List.mem_cons.mp hmem with e' | hmem
  · exact hb e'
  · exact hb2 (List.mem_singleton.mp hmem)
theorem list_init_rev {R : Result → Shared → Prop} {it l : Addr} {items : Array Value} (hh : A.handled = none) (hit : s.heap.IsRevIter it l ((items.size : Int) - 1)) (hl : s.heap.IsList l items) (hne : l ≠ it) (hn : items.size ≤ sizeLine)
    (S : Addr) (hS : s.heap.get? S = some { cls := .type "list", data := .seq #[] }) (hSi : S ≠ it) (hSl : S ≠ l)
    (hR : ∀ h' tk acc' c', (∀ b o, b ≠ S → b ≠ it → s.heap.get? b = some o → h'.get? b = some o) → h'.get? S = some { cls := .type "list", dict := none, data := .seq acc' c', slots := #[] } →
      ItemsOf (fun i v => items[items.size - 1 - i]? = some v) acc' items.size → R (.ok (.ret .none)) { s with heap := h', toks := tk }) :
    wpAny (model prog w) A.in1 (Builtin.«list.__init__» ⟨[.ref S, .ref it], []⟩)
      (fun fin s' => match fin with | .done f => R (.ok f) s' | .again c' => c'.quiet = true ∧ codeAny (model prog w) A c' R s') (fun e s' => R (.error e) s') s := by
  show wpAny _ _ (do let old ← Builtin.List.listItems (.ref S); Builtin.List.listUpdate (.ref S) (fun _ => #[]); letGo old.toList.reverse; Builtin.List.listExtendWith (.ref S) (.ref it) .none) _ _ s
  refine wpAny_bind ?_
  unfold Builtin.List.listItems
  refine wpAny_bind (wpAny_seqItems hS rfl (wpAny_pure ?_))
  show wpAny _ _ (updateSeq S (fun _ => #[]) >>= fun _ => letGo (#[] : Array Value).toList.reverse >>= fun _ => Builtin.List.listExtendWith (.ref S) (.ref it) .none) _ _ s
  refine wpAny_bind (wpAny_updateSeq hS rfl ?_)
  have hS₂ := Heap.get?_update_self (Obj.mapSeq (fun _ => (#[] : Array Value))) hS rfl
  have oth : ∀ b o, b ≠ S → s.heap.get? b = some o → (s.heap.update S (Obj.mapSeq (fun _ => (#[] : Array Value)))).get? b = some o :=
    fun b o hb e => (Heap.get?_update_other _ _ (Ne.symm hb)).trans e
  refine wpAny_bind (wpAny_letGo ?_)
  exact extend_rev (s := { s with heap := s.heap.update S (Obj.mapSeq (fun _ => (#[] : Array Value))) }) hh (hit.at fun o e => oth it o (Ne.symm hSi) e) (hl.at fun o e => oth l o (Ne.symm hSl) e) hne hn S .none hS₂ hSi hSl fun h' tk acc' c' hk hS' hacc =>
    hR h' tk acc' c' (fun b o hb hb2 e => hk b o hb hb2 (oth b o hb e)) hS' hacc
theorem call_list_rev {it l : Addr} {items : Array Value} {Q : Value → Shared → Prop} (hh : A.handled = none) (hit : s.heap.IsRevIter it l ((items.size : Int) - 1)) (hl : s.heap.IsList l items) (hne : l ≠ it) (hn : items.size ≤ sizeLine)
    (hQ : ∀ h' tk acc' c', (∀ b o, b ≠ it → s.heap.get? b = some o → h'.get? b = some o) →
      h'.get? s.heap.objs.size = some { cls := .type "list", dict := none, data := .seq acc' c', slots := #[] } → ItemsOf (fun i v => items[items.size - 1 - i]? = some v) acc' items.size → Q (.ref s.heap.objs.size) { s with heap := h', toks := tk }) :
    wpAny (model prog w) A (call (.type "list") [.ref it]) Q E s := by
  refine callType_codes (Q₁ := fun obj s₁ => obj = .ref s.heap.objs.size ∧ s₁ = { s with heap := s.heap.push { cls := .type "list", data := .seq #[] } }) F.called_list (F.typeCall_list_1 _) F.entry_list_init
    (code_list_new _ ⟨rfl, rfl⟩) fun obj s₁ h₁ => ?_
  obtain ⟨rfl, rfl⟩ := h₁
  have hS : (s.heap.push { cls := .type "list", data := .seq #[] }).get? s.heap.objs.size = some { cls := .type "list", data := .seq #[] } := Heap.get?_push_size _ rfl
  obtain ⟨oi, hoi, _⟩ := id hit
  obtain ⟨ol, hol, _⟩ := id hl
  refine ⟨⟨_, hS, rfl⟩, F.args_list_init_2 _ _, list_init_rev (A := A.in1) (s := { s with heap := s.heap.push { cls := .type "list", data := .seq #[] } }) hh (hit.at fun o e => Heap.get?_push_of_some _ e) (hl.push _) hne hn _ hS (Nat.ne_of_gt (Heap.lt_size hoi)) (Nat.ne_of_gt (Heap.lt_size hol)) fun h' tk acc' c' hk hS' hacc => ?_⟩
  exact ⟨rfl, hQ h' tk acc' c' (fun b o hb e => hk b o (Nat.ne_of_lt (Heap.lt_size e)) hb (Heap.get?_push_of_some _ e)) hS' hacc⟩
end
def tLstRev (K : PySem.W.Frag) (te : TE) : TE := fun σ H Q => te σ H fun v H1 => ∃ (a : Addr) (xs : List V), v = .ref a ∧ SqL K H1 a xs ∧ ∀ q, H1 q = none → Q (.ref q) (upd H1 q (.lst xs.reverse))
section
variable {X : Cx}
theorem pe_lstRev {e : Expr} {te : TE} {p p2 pos pos2 : Pos} (hc : X.calm = true) (hg : Gl X "list") (hm : X.mg "list" = none) (hg2 : Gl X "reversed") (hm2 : X.mg "reversed" = none) (he : PE X e te)
    (hs : starEach [e] X.env = (false, eval e X.env) :: starEach [] X.env := by rfl)
    (hs2 : starEach [.Call (.Name "reversed" p2) [e] [] pos2] X.env = (false, eval (.Call (.Name "reversed" p2) [e] [] pos2) X.env) :: starEach [] X.env := by rfl) :
    PE X (.Call (.Name "list" p) [.Call (.Name "reversed" p2) [e] [] pos2] [] pos) (tLstRev X.K te) := by
  refine ⟨fun pins s σ H Q I h => ?_⟩
  refine Call_ (ld_blt I hg hm boot_list (PyProof.Rows.callWith_type1 (args_cons (Call_ (ld_blt I hg2 hm2 PyProof.Rows.boot_reversed (PyProof.Rows.callWith_type1 (args_cons (thn (he.run pins s σ H _ I h) fun u s1 ⟨v, H1, I1, r1, q1⟩ => args_nil ?_) hs) hs rfl))) hs2) hs2 rfl))
  obtain ⟨a, xs, ev, hq, q⟩ := q1
  subst ev
  obtain rfl : u = Value.ref a := r1
  obtain ⟨its, rv, p', hz⟩ := I1.list hq
  refine call_reversed_list p'.isList (args_nil ?_)
  have k0 : ∀ b o, s1.heap.get? b = some o → (s1.heap.push (revObj a ((its.toArray.size : Int) - 1))).get? b = some o := fun b o e => Heap.get?_push_of_some _ e
  have I2 : Inv X pins σ H1 { s1 with heap := s1.heap.push (revObj a ((its.toArray.size : Int) - 1)) } := I1.kept (t' := s1.toks) k0
  obtain ⟨f0, f1, f2, f3, f4, f5⟩ := I1.fpOk (H' := H1) (b := s1.heap.objs.size) (Nat.le_refl _) (I1.hok.fresh (Nat.le_refl _))
  have hl := p'.isList
  obtain ⟨ol, hol, _⟩ := id hl
  have hne : a ≠ s1.heap.objs.size := Nat.ne_of_lt (Heap.lt_size hol)
  have hn : its.toArray.size ≤ sizeLine := by rw [List.size_toArray, ← rv.length]; exact hz
  refine call_list_rev (s := { s1 with heap := s1.heap.push (revObj a ((its.toArray.size : Int) - 1)) }) (I1.ok.hd hc) ⟨_, Heap.get?_push_size _ rfl, rfl, rfl⟩ (hl.push _) hne hn fun h' tk acc c' hk he' hi => ?_
  have I3 : Inv X pins σ H1 { s1 with heap := h', toks := tk } := I2.turned (t' := tk) (fun b o hb e => hk b o hb e) f0 f1 f3 f4 f5
  refine ⟨.ref (s1.heap.push (revObj a ((its.toArray.size : Int) - 1))).objs.size, upd H1 (s1.heap.push (revObj a ((its.toArray.size : Int) - 1))).objs.size (.lst xs.reverse), ?_, rfl, q _ (I2.hok.fresh (Nat.le_refl _))⟩
  refine I2.turnedNew (t' := tk) (ch := [s1.heap.objs.size]) (fun b o hb e => hk b o (fun z => hb (by simp [z])) e) (fun b hb => ?_) (Nat.le_refl _) (show ObjOk X.prog X.w _ _ _ (.lst xs.reverse) from ⟨by rw [List.length_reverse]; exact hz, acc.toList, c', RT.vals_rev rv hi, ?_⟩)
  · have e : b = s1.heap.objs.size := by simpa using hb
    subst e
    exact ⟨f0, f1, f2, f3, f4, f5⟩
  · rw [Array.toArray_toList]; exact he'
end

/-! ### isinstance -/
inductive Ty5 where
  | int | bool | str | list | tuple
def Ty5.nm : Ty5 → String
  | .int => "int"
  | .bool => "bool"
  | .str => "str"
  | .list => "list"
  | .tuple => "tuple"
def isaB (T : Ty5) : Dt → Option Bool
  | .none => some false
  | .bool _ => some (match T with | .bool => true | .int => true | _ => false)
  | .int _ => some (match T with | .int => true | _ => false)
  | .str _ => some (match T with | .str => true | _ => false)
  | .list _ => some (match T with | .list => true | _ => false)
  | .tuple _ => some (match T with | .tuple => true | _ => false)
  | _ => none
def hIsa (T : Ty5) : Dt → O Dt := fun d => match isaB T d with
  | some b => .ok (.bool b)
  | none => .bad
theorem scl_isa {T : Ty5} : Scl1 (hIsa T) := fun d => by
  unfold hIsa
  cases isaB T d with
  | none => exact .inr rfl
  | some b => exact .inl ⟨_, rfl, rfl⟩
section
variable {K : PySem.W.Frag} {W : Wt} {Δ : List Kd} {te : TE} {g : Gd} {av fr : Bool} {T : Ty5}
theorem kit_non : PySem.W.kitOne K (.type "NoneType") (.type T.nm) = some false := by cases T <;> exact kit_ty (by decide +kernel)
theorem kit_bl : PySem.W.kitOne K (.type "bool") (.type T.nm) = some (match T with | .bool => true | .int => true | _ => false) := by cases T <;> exact kit_ty (by decide +kernel)
theorem kit_int : PySem.W.kitOne K (.type "int") (.type T.nm) = some (match T with | .int => true | _ => false) := by cases T <;> exact kit_ty (by decide +kernel)
theorem kit_str : PySem.W.kitOne K (.type "str") (.type T.nm) = some (match T with | .str => true | _ => false) := by cases T <;> exact kit_ty (by decide +kernel)
theorem kit_list : PySem.W.kitOne K (.type "list") (.type T.nm) = some (match T with | .list => true | _ => false) := by cases T <;> exact kit_ty (by decide +kernel)
theorem kit_tuple : PySem.W.kitOne K (.type "tuple") (.type T.nm) = some (match T with | .tuple => true | _ => false) := by cases T <;> exact kit_ty (by decide +kernel)
theorem rp_isa {F : Addr → Prop} {H : Hp} {v : V} {d : Dt} {b : Bool} (h : Rp K F H v d) (e : isaB T d = some b) : ∃ t, TyX K H v t ∧ PySem.W.kitOne K t (.type T.nm) = some b := by
  cases h with
  | non => cases e; exact ⟨_, .base .non, kit_non⟩
  | bl x => cases e; exact ⟨_, .base (.bl x), kit_bl⟩
  | int x => cases e; exact ⟨_, .base (.int x), kit_int⟩
  | str x => cases e; exact ⟨_, .base (.str x), kit_str⟩
  | lst hp _ _ => cases e; exact ⟨_, .base (.lst hp), kit_list⟩
  | fz hp _ =>
    cases e
    rcases hp with ⟨o, hp⟩ | ⟨o, its, n, hp, hc, _⟩
    · exact ⟨_, .base (.frz hp), kit_list⟩
    · exact ⟨_, .kList hp hc, kit_list⟩
  | tup hp _ =>
    cases e
    rcases hp with (hp | ⟨o, hp⟩) | ⟨o, its, n, hp, hc, _⟩
    · exact ⟨_, .base (.tup hp), kit_tuple⟩
    · exact ⟨_, .fTuple hp, kit_tuple⟩
    · exact ⟨_, .kTuple hp hc, kit_tuple⟩
theorem se_isa (ha : SE K W Δ te (.v av fr) g) : SE K W Δ (tCB (rIsi K) (tCons te (tCons (tC (.ty T.nm)) tNil))) (.v true true) (gUn (hIsa T) g) := fun f ρ σ H Q R q => by
  refine ha f ρ σ H _ R ?_
  unfold gUn at q
  cases e1 : g ρ with
  | bad => rw [e1] at q; exact q
  | ex z => rw [e1] at q; exact q
  | ok d =>
    rw [e1, bnd_ok] at q
    intro v H1 s1 x1
    unfold hIsa at q
    cases e2 : isaB T d with
    | none => rw [e2] at q; exact q.elim
    | some b =>
      rw [e2] at q
      obtain ⟨t, h1, h2⟩ := rp_isa x1 e2
      exact ⟨v, .ty T.nm, t, .type T.nm, b, rfl, .ty _, h1, h2, q _ H1 s1 (.bl b)⟩
end
section
variable {X : Cx} {K : PySem.W.Frag} {W : Wt} {Δ Δn Δb Δc : List Kd} {a b e : Expr} {es : List Expr} {ta tb te : TE} {tA : TA} {g ga : Gd} {gA : List Dt → O (List Dt)} {av fr : Bool} {L : Lk} {pos : Pos} {st : Stmt}
theorem x_isa (T : Ty5) {x : Str} {p p2 : Pos} (hm : X.mg "isinstance" = none) (hm2 : X.mg x = none) (h : PD X K W Δ e te (.v av fr) g) (hv : bootBuiltins x = some (.type T.nm) := by decide +kernel) (hg2 : Gl X x := by rfl) (hn : x ≠ "__name__" := by decide) (hdb : (x == ("__debug__" : Str)) = false := by decide)
    (hg : Gl X "isinstance" := by rfl)
    (he : starEach [e, .Name x p2] X.env = (false, eval e X.env) :: starEach [.Name x p2] X.env := by rfl) (he2 : starEach [.Name x p2] X.env = (false, eval (.Name x p2) X.env) :: starEach [] X.env := by rfl) (hpl : (backTo pos (starEach [.Name x p2] X.env)).any (·.1) = false := by rfl) :
    PD X K W Δ (.Call (.Name "isinstance" p) [e, .Name x p2] [] pos) (tCB (rIsi K) (tCons te (tCons (tC (.ty T.nm)) tNil))) (.v true true) (gUn (hIsa T) g) :=
  ⟨pe_callB (by have q := call_isi (X := X); rw [h.hK] at q; exact q) hg hm (by decide +kernel) (pa_cons h.pe (pa_cons (pe_bltn hg2 hm2 hv rfl hn hdb) pa_nil he2) he) (by decide) (by decide) he hpl, h.hK, se_isa h.se⟩

/-! ### what is never reached -/
def gBad : Gs := fun _ => .bad
theorem z_never (hK : X.K = K := by rfl) : SD X K W L Δ Δn Δb Δc st tNever gBad := ⟨ps_never, hK, fun f ρ σ H E r q => q.elim⟩

/-! ### enumerate, reversed, zip -/
def lst1 : List Dt → Option (List Dt)
  | [.list es] => some es
  | _ => none
def lst2 : List Dt → Option (List Dt × List Dt)
  | [.list es, .list es2] => some (es, es2)
  | _ => none
theorem lst1_inv {ds es : List Dt} (h : lst1 ds = some es) : ds = [.list es] := by
  unfold lst1 at h
  split at h
  · cases h; rfl
  · cases h
theorem lst2_inv {ds : List Dt} {p : List Dt × List Dt} (h : lst2 ds = some p) : ds = [.list p.1, .list p.2] := by
  unfold lst2 at h
  split at h
  · cases h; rfl
  · cases h
def enumD (es : List Dt) : List Dt := es.zipIdx.map fun p => .tuple [.int (p.2 : Nat), p.1]
def zipD (es es2 : List Dt) : List Dt := (es.zip es2).map fun p => .tuple [p.1, p.2]
def gEnum (gA : List Dt → O (List Dt)) : List Dt → O (List Dt) := fun ρ => bnd (gA ρ) fun ds => match lst1 ds with
  | some es => .ok (enumD es)
  | none => .bad
def gRev (gA : List Dt → O (List Dt)) : List Dt → O (List Dt) := fun ρ => bnd (gA ρ) fun ds => match lst1 ds with
  | some es => .ok es.reverse
  | none => .bad
def gZip (gA : List Dt → O (List Dt)) : List Dt → O (List Dt) := fun ρ => bnd (gA ρ) fun ds => match lst2 ds with
  | some p => .ok (zipD p.1 p.2)
  | none => .bad
theorem sc_enum {c : Addr} {es : List Dt} : Sc K (Ite K c) none [.ref c] [.list es] (enumD es) where
  goes := fun i H hi ⟨_, F, r⟩ => by
    cases r with
    | cons h _ =>
      obtain ⟨b, xs, e, hs, r⟩ := h.sql
      cases e
      have hx : i < xs.length := by rw [r.length]; unfold enumD at hi; simpa using hi
      exact ⟨xs, xs[i], hs, List.getElem?_eq_getElem hx⟩
  stops := fun H ⟨_, F, r⟩ => by
    cases r with
    | cons h _ =>
      obtain ⟨b, xs, e, hs, r⟩ := h.sql
      cases e
      exact ⟨xs, hs, by rw [r.length]; unfold enumD; simp⟩
  yields := fun i H x H' hi _ y => by
    obtain ⟨T, z, e, nT, eH, y⟩ := y
    subst e eH
    refine ⟨same_upd nT, fun F r => ?_⟩
    cases r with
    | cons h _ =>
      obtain ⟨b, xs, e, hs, r⟩ := h.sql
      cases e
      obtain ⟨d, h1, h2⟩ := r.get (y xs hs)
      refine ⟨.tuple [.int (i : Nat), d], ?_, .tup (.inl (.inl upd_same)) (.cons (.int _) (.cons (h2.same (same_upd nT)) .nil))⟩
      unfold enumD
      rw [List.getElem?_map, List.getElem?_zipIdx, h1]
      simp
theorem sc_rev {c : Addr} {es : List Dt} {n : Nat} (hn : n = es.length) : Sc K (Itv K c n) none [.ref c] [.list es] es.reverse where
  goes := fun i H hi ⟨_, F, r⟩ => by
    cases r with
    | cons h _ =>
      obtain ⟨b, xs, e, hs, r⟩ := h.sql
      cases e
      rw [List.length_reverse] at hi
      have hx : n - 1 - i < xs.length := by rw [r.length]; omega
      exact ⟨by omega, xs, _, hs, List.getElem?_eq_getElem hx⟩
  stops := fun H _ => by rw [List.length_reverse]; exact Nat.le_of_eq hn
  yields := fun i H x H' hi _ y => by
    obtain ⟨e, y⟩ := y
    subst e
    refine ⟨Same.refl _, fun F r => ?_⟩
    cases r with
    | cons h _ =>
      obtain ⟨b, xs, e, hs, r⟩ := h.sql
      cases e
      obtain ⟨d, h1, h2⟩ := r.get (y xs hs)
      rw [List.length_reverse] at hi
      exact ⟨d, by rw [List.getElem?_reverse hi, ← hn]; exact h1, h2⟩
theorem sc_zip {c c2 : Addr} {es es2 : List Dt} : Sc K (Itz K c c2) none [.ref c, .ref c2] [.list es, .list es2] (zipD es es2) where
  goes := fun i H hi ⟨_, F, r⟩ => by
    cases r with
    | cons h r2 =>
      cases r2 with
      | cons h2 _ =>
        obtain ⟨b, xs, e, hs, r⟩ := h.sql
        cases e
        obtain ⟨b, xs2, e, hs2, r2⟩ := h2.sql
        cases e
        have hl : i < es.length ∧ i < es2.length := by unfold zipD at hi; rw [List.length_map, List.length_zip] at hi; omega
        exact ⟨xs, xs2, _, _, hs, hs2, List.getElem?_eq_getElem (by rw [r.length]; exact hl.1), List.getElem?_eq_getElem (by rw [r2.length]; exact hl.2)⟩
  stops := fun H ⟨_, F, r⟩ => by
    cases r with
    | cons h r2 =>
      cases r2 with
      | cons h2 _ =>
        obtain ⟨b, xs, e, hs, r⟩ := h.sql
        cases e
        obtain ⟨b, xs2, e, hs2, r2⟩ := h2.sql
        cases e
        refine ⟨xs, xs2, hs, hs2, ?_⟩
        unfold zipD
        rw [List.length_map, List.length_zip, r.length, r2.length]
        omega
  yields := fun i H x H' hi _ y => by
    obtain ⟨T, z, z2, e, nT, eH, y, y2⟩ := y
    subst e eH
    refine ⟨same_upd nT, fun F r => ?_⟩
    cases r with
    | cons h r2 =>
      cases r2 with
      | cons h2 _ =>
        obtain ⟨b, xs, e, hs, r⟩ := h.sql
        cases e
        obtain ⟨b, xs2, e, hs2, r2⟩ := h2.sql
        cases e
        obtain ⟨d, h1, h1'⟩ := r.get (y xs hs)
        obtain ⟨d2, h2, h2'⟩ := r2.get (y2 xs2 hs2)
        refine ⟨.tuple [d, d2], ?_, .tup (.inl (.inl upd_same)) (.cons (h1'.same (same_upd nT)) (.cons (h2'.same (same_upd nT)) .nil))⟩
        unfold zipD
        rw [List.getElem?_map, List.getElem?_zip_eq_some (z := (d, d2)) |>.mpr ⟨h1, h2⟩]
        rfl
theorem si_enum (h : SA K W Δ tA true fr gA) : SI K W Δ (iEnum K tA) false fr (gEnum gA) := fun f ρ σ H Rk R q => by
  refine h f ρ σ H _ R ?_
  unfold gEnum at q
  cases e1 : gA ρ with
  | bad => rw [e1] at q; exact q
  | ex z => rw [e1] at q; exact q
  | ok ds =>
    rw [e1, bnd_ok] at q
    intro vs H1 s1 x1
    cases er : lst1 ds with
    | none => rw [er] at q; exact q.elim
    | some es =>
      rw [er] at q
      have e := lst1_inv er
      subst e
      have x0 := x1
      cases x1 with
      | cons x1 xr =>
        cases xr
        obtain ⟨c, xs, rfl, hs, r⟩ := x1.sql
        exact ⟨c, xs, rfl, hs, q _ H1 none [.ref c] [.list es] s1 (fun _ => rfl) (fun _ e => nomatch e) x0 sc_enum⟩
theorem si_rev (h : SA K W Δ tA true fr gA) : SI K W Δ (iRev K tA) false fr (gRev gA) := fun f ρ σ H Rk R q => by
  refine h f ρ σ H _ R ?_
  unfold gRev at q
  cases e1 : gA ρ with
  | bad => rw [e1] at q; exact q
  | ex z => rw [e1] at q; exact q
  | ok ds =>
    rw [e1, bnd_ok] at q
    intro vs H1 s1 x1
    cases er : lst1 ds with
    | none => rw [er] at q; exact q.elim
    | some es =>
      rw [er] at q
      have e := lst1_inv er
      subst e
      have x0 := x1
      cases x1 with
      | cons x1 xr =>
        cases xr
        obtain ⟨c, xs, rfl, hs, r⟩ := x1.sql
        exact ⟨c, xs, rfl, hs, q _ H1 none [.ref c] [.list es] s1 (fun _ => rfl) (fun _ e => nomatch e) x0 (sc_rev r.length)⟩
theorem si_zip (h : SA K W Δ tA true fr gA) : SI K W Δ (iZip K tA) false fr (gZip gA) := fun f ρ σ H Rk R q => by
  refine h f ρ σ H _ R ?_
  unfold gZip at q
  cases e1 : gA ρ with
  | bad => rw [e1] at q; exact q
  | ex z => rw [e1] at q; exact q
  | ok ds =>
    rw [e1, bnd_ok] at q
    intro vs H1 s1 x1
    cases er : lst2 ds with
    | none => rw [er] at q; exact q.elim
    | some p =>
      rw [er] at q
      have e := lst2_inv er
      subst e
      have x0 := x1
      cases x1 with
      | cons x1 xr =>
        cases xr with
        | cons x2 xr =>
          cases xr
          obtain ⟨c, xs, rfl, hs, r⟩ := x1.sql
          obtain ⟨c2, xs2, rfl, hs2, r2⟩ := x2.sql
          exact ⟨c, c2, xs, xs2, rfl, hs, hs2, q _ H1 none [.ref c, .ref c2] [.list p.1, .list p.2] s1 (fun _ => rfl) (fun _ e => nomatch e) x0 sc_zip⟩
theorem i_enum {p tpos : Pos} {elts : List Expr} {kk : Nat} (hm : X.mg "enumerate" = none) (h : AD X K W Δ [a] tA true fr gA) (hg : Gl X "enumerate" := by rfl) (hs : starEach [a] X.env = [(false, eval a X.env)] := by rfl) : ID X K W Δ (.Tuple elts kk tpos) (.Call (.Name "enumerate" p) [a] [] pos) (iEnum K tA) false fr (gEnum gA) :=
  ⟨by have q := pi_enum (X := X) (tpos := tpos) (elts := elts) (kk := kk) (p := p) (pos := pos) hg hm h.pa hs; rw [h.hK] at q; exact q, h.hK, si_enum h.sa⟩
theorem i_rev {tg : Expr} {p : Pos} (hm : X.mg "reversed" = none) (h : AD X K W Δ [a] tA true fr gA) (hg : Gl X "reversed" := by rfl) (hs : starEach [a] X.env = [(false, eval a X.env)] := by rfl) : ID X K W Δ tg (.Call (.Name "reversed" p) [a] [] pos) (iRev K tA) false fr (gRev gA) :=
  ⟨by have q := pi_reversed (X := X) (tg := tg) (p := p) (pos := pos) hg hm h.pa hs; rw [h.hK] at q; exact q, h.hK, si_rev h.sa⟩
theorem i_zip {p tpos : Pos} {elts : List Expr} {kk : Nat} (hm : X.mg "zip" = none) (h : AD X K W Δ [a, b] tA true fr gA) (hg : Gl X "zip" := by rfl) (hs : starEach [a, b] X.env = (false, eval a X.env) :: starEach [b] X.env := by rfl) (hpl : (backTo pos (starEach [b] X.env)).any (·.1) = false := by rfl) : ID X K W Δ (.Tuple elts kk tpos) (.Call (.Name "zip" p) [a, b] [] pos) (iZip K tA) false fr (gZip gA) :=
  ⟨by have q := pi_zip (X := X) (tpos := tpos) (elts := elts) (kk := kk) (p := p) (pos := pos) hg hm h.pa hs hpl; rw [h.hK] at q; exact q, h.hK, si_zip h.sa⟩

/-! ### list(range), list(reversed) -/
def gLsI (gI : List Dt → O (List Dt)) : Gd := fun ρ => bnd (gI ρ) fun ds => if ds.length ≤ 100000 then .ok (.list ds) else .bad
theorem rpA_mapInt {F : Addr → Prop} {H : Hp} {α : Type} (f : α → Int) : ∀ l : List α, RpA K F H (l.map fun i => V.int (f i)) (l.map fun i => PyData.int (f i))
  | [] => .nil
  | x :: l => .cons (.int _) (rpA_mapInt f l)
theorem se_lrng1 (ha : SE K W Δ te (.v av fr) g) : SE K W Δ (tLstRg (tRg1 te)) (.new .l true) (gLsI (gRng1 (gCons g gNil))) := fun f ρ σ H Q R q => by
  refine ha f ρ σ H _ R ?_
  unfold gLsI gRng1 gCons gNil at q
  cases e1 : g ρ with
  | bad => rw [e1] at q; exact q
  | ex z => rw [e1] at q; exact q
  | ok d =>
    rw [e1, bnd_ok, bnd_ok, bnd_ok] at q
    intro v H1 s1 x1
    cases er : rng1 [d] with
    | none => rw [er] at q; exact q.elim
    | some p =>
      rw [er] at q
      unfold rng1 at er
      split at er
      · split at er
        · rename_i hj
          obtain ⟨e, e'⟩ := List.cons.inj ‹[d] = _›
          rename_i j h2
          cases er
          subst e
          rw [rpInt x1]
          simp only [bnd_ok] at q
          by_cases l : (rangeD 0 j).length ≤ 100000
          · rw [if_pos l] at q
            rw [rangeD_len] at l
            refine ⟨j, rfl, ⟨by omega, by omega, hj.1, hj.2, by omega⟩, fun p np => q p _ (s1.free np) (s1.trans (same_upd np)) ⟨_, _, rfl, upd_same, ?_⟩⟩
            exact rpA_mapInt _ _
          · rw [if_neg l] at q
            exact q.elim
        · cases er
      · cases er
theorem se_lrng2 (ha : SE K W Δ ta (.v av fr) ga) {av' fr' : Bool} (hb : SE K W Δ tb (.v av' fr') g) : SE K W Δ (tLstRg (tRg2 ta tb)) (.new .l true) (gLsI (gRng2 (gCons ga (gCons g gNil)))) := fun f ρ σ H Q R q => by
  refine ha f ρ σ H _ R ?_
  unfold gLsI gRng2 gCons gNil at q
  cases e1 : ga ρ with
  | bad => rw [e1] at q; exact q
  | ex z => rw [e1] at q; exact q
  | ok d =>
    rw [e1, bnd_ok] at q
    intro v H1 s1 x1
    refine hb f ρ σ H1 _ (R.mono s1) ?_
    cases e2 : g ρ with
    | bad => rw [e2] at q; exact q
    | ex z => rw [e2] at q; exact fun H' s => q H' (s1.trans s)
    | ok d2 =>
      rw [e2, bnd_ok, bnd_ok, bnd_ok, bnd_ok] at q
      intro v2 H2 s2 x2
      cases er : rng2 [d, d2] with
      | none => rw [er] at q; exact q.elim
      | some p =>
        rw [er] at q
        unfold rng2 at er
        split at er
        · split at er
          · rename_i hj
            obtain ⟨e, e'⟩ := List.cons.inj ‹[d, d2] = _›
            obtain ⟨e', _⟩ := List.cons.inj e'
            cases er
            subst e e'
            rw [rpInt x1, rpInt x2]
            simp only [bnd_ok] at q
            rename_i i j _ _
            by_cases l : (rangeD i j).length ≤ 100000
            · rw [if_pos l] at q
              rw [rangeD_len] at l
              refine ⟨i, j, rfl, rfl, ⟨hj.1, hj.2.1, hj.2.2.1, hj.2.2.2, by omega⟩, fun p np => q p _ ((s1.trans s2).free np) ((s1.trans s2).trans (same_upd np)) ⟨_, _, rfl, upd_same, ?_⟩⟩
              exact rpA_mapInt _ _
            · rw [if_neg l] at q
              exact q.elim
          · cases er
        · cases er
theorem se_lrev (ha : SE K W Δ te (.v true fr) g) : SE K W Δ (tLstRev K te) (.new .l fr) (gLsI (gRev (gCons g gNil))) := fun f ρ σ H Q R q => by
  refine ha f ρ σ H _ R ?_
  unfold gLsI gRev gCons gNil at q
  cases e1 : g ρ with
  | bad => rw [e1] at q; exact q
  | ex z => rw [e1] at q; exact q
  | ok d =>
    rw [e1, bnd_ok, bnd_ok, bnd_ok] at q
    intro v H1 s1 x1
    cases er : lst1 [d] with
    | none => rw [er] at q; exact q.elim
    | some es =>
      rw [er] at q
      have e := List.cons.inj (lst1_inv er)
      cases e.1
      simp only [bnd_ok] at q
      by_cases l : es.reverse.length ≤ 100000
      · rw [if_pos l] at q
        obtain ⟨c, xs, rfl, hs, r⟩ := x1.sql
        exact ⟨c, xs, rfl, hs, fun p np => q p _ (s1.free np) (s1.trans (same_upd np)) ⟨_, _, rfl, upd_same, r.reverse.mono (same_upd np) fun a y z => ⟨y, fun e => z (e ▸ np)⟩⟩⟩
      · rw [if_neg l] at q
        exact q.elim
theorem se_lrevO (ha : SE K W Δ te (.o fr) g) : SE K W Δ (tLstRev K te) (.new .l fr) (gLsI (gRev (gCons g gNil))) := fun f ρ σ H Q R q => by
  refine ha f ρ σ H _ R ?_
  unfold gLsI gRev gCons gNil at q
  cases e1 : g ρ with
  | bad => rw [e1] at q; exact q
  | ex z => rw [e1] at q; exact q
  | ok d =>
    rw [e1, bnd_ok, bnd_ok, bnd_ok] at q
    intro p H1 vs ds ed s1 hp gp x1
    subst ed
    simp only [bnd_ok, lst1] at q
    by_cases l : ds.reverse.length ≤ 100000
    · rw [if_pos l] at q
      exact ⟨p, vs, rfl, .inl (.inl hp), fun p np => q p _ (s1.free np) (s1.trans (same_upd np)) ⟨_, _, rfl, upd_same, x1.reverse.mono (same_upd np) fun a y z => ⟨y, fun e => z (e ▸ np)⟩⟩⟩
    · rw [if_neg l] at q
      exact q.elim
theorem x_lrng1 {p p2 pos2 : Pos} (hm : X.mg "list" = none) (hm2 : X.mg "range" = none) (h : PD X K W Δ a ta (.v av fr) ga) (hc : X.calm = true := by rfl) (hg : Gl X "list" := by rfl) (hg2 : Gl X "range" := by rfl)
    (na : starEach [a] X.env = (false, eval a X.env) :: starEach [] X.env := by rfl) (na2 : starEach [.Call (.Name "range" p2) [a] [] pos2] X.env = (false, eval (.Call (.Name "range" p2) [a] [] pos2) X.env) :: starEach [] X.env := by rfl) :
    PD X K W Δ (.Call (.Name "list" p) [.Call (.Name "range" p2) [a] [] pos2] [] pos) (tLstRg (tRg1 ta)) (.new .l true) (gLsI (gRng1 (gCons ga gNil))) := ⟨pe_listRg hc hg hm (prg_1 hg2 hm2 h.pe na) na2, h.hK, se_lrng1 h.se⟩
theorem x_lrng2 {av' fr' : Bool} {p p2 pos2 : Pos} (hm : X.mg "list" = none) (hm2 : X.mg "range" = none) (h : PD X K W Δ a ta (.v av fr) ga) (h' : PD X K W Δ b tb (.v av' fr') g) (hc : X.calm = true := by rfl) (hg : Gl X "list" := by rfl) (hg2 : Gl X "range" := by rfl)
    (na : starEach [a, b] X.env = (false, eval a X.env) :: starEach [b] X.env := by rfl) (nb : starEach [b] X.env = (false, eval b X.env) :: starEach [] X.env := by rfl) (hp : (backTo pos2 (starEach [b] X.env)).any (·.1) = false := by rfl)
    (na2 : starEach [.Call (.Name "range" p2) [a, b] [] pos2] X.env = (false, eval (.Call (.Name "range" p2) [a, b] [] pos2) X.env) :: starEach [] X.env := by rfl) :
    PD X K W Δ (.Call (.Name "list" p) [.Call (.Name "range" p2) [a, b] [] pos2] [] pos) (tLstRg (tRg2 ta tb)) (.new .l true) (gLsI (gRng2 (gCons ga (gCons g gNil)))) := ⟨pe_listRg hc hg hm (prg_2 hg2 hm2 h.pe h'.pe na nb hp) na2, h.hK, se_lrng2 h.se h'.se⟩
theorem x_lrev {p p2 pos2 : Pos} (hm : X.mg "list" = none) (hm2 : X.mg "reversed" = none) (h : PD X K W Δ a ta (.v true fr) ga) (hc : X.calm = true := by rfl) (hg : Gl X "list" := by rfl) (hg2 : Gl X "reversed" := by rfl)
    (na : starEach [a] X.env = (false, eval a X.env) :: starEach [] X.env := by rfl) (na2 : starEach [.Call (.Name "reversed" p2) [a] [] pos2] X.env = (false, eval (.Call (.Name "reversed" p2) [a] [] pos2) X.env) :: starEach [] X.env := by rfl) :
    PD X K W Δ (.Call (.Name "list" p) [.Call (.Name "reversed" p2) [a] [] pos2] [] pos) (tLstRev K ta) (.new .l fr) (gLsI (gRev (gCons ga gNil))) := ⟨by have q := pe_lstRev (X := X) (p := p) (p2 := p2) (pos := pos) (pos2 := pos2) hc hg hm hg2 hm2 h.pe na na2; rw [h.hK] at q; exact q, h.hK, se_lrev h.se⟩
theorem x_lrevO {p p2 pos2 : Pos} (hm : X.mg "list" = none) (hm2 : X.mg "reversed" = none) (h : PD X K W Δ a ta (.o fr) ga) (hc : X.calm = true := by rfl) (hg : Gl X "list" := by rfl) (hg2 : Gl X "reversed" := by rfl)
    (na : starEach [a] X.env = (false, eval a X.env) :: starEach [] X.env := by rfl) (na2 : starEach [.Call (.Name "reversed" p2) [a] [] pos2] X.env = (false, eval (.Call (.Name "reversed" p2) [a] [] pos2) X.env) :: starEach [] X.env := by rfl) :
    PD X K W Δ (.Call (.Name "list" p) [.Call (.Name "reversed" p2) [a] [] pos2] [] pos) (tLstRev K ta) (.new .l fr) (gLsI (gRev (gCons ga gNil))) := ⟨by have q := pe_lstRev (X := X) (p := p) (p2 := p2) (pos := pos) (pos2 := pos2) hc hg hm hg2 hm2 h.pe na na2; rw [h.hK] at q; exact q, h.hK, se_lrevO h.se⟩
end
/-! ### range(i, j, -1) -/
def rng3 : List Dt → Option (Int × Int)
  | [.int i, .int j, .int c] => if c = -1 ∧ -(2 ^ 62) ≤ i ∧ i < 2 ^ 62 ∧ -(2 ^ 62) ≤ j ∧ j < 2 ^ 62 then some (i, j) else none
  | _ => none
theorem rng3_inv {ds : List Dt} {p : Int × Int} (h : rng3 ds = some p) : ds = [.int p.1, .int p.2, .int (-1)] ∧ -(2 ^ 62) ≤ p.1 ∧ p.1 < 2 ^ 62 ∧ -(2 ^ 62) ≤ p.2 ∧ p.2 < 2 ^ 62 := by
  unfold rng3 at h
  split at h
  · split at h
    · rename_i c
      cases h
      obtain ⟨e, c⟩ := c
      subst e
      exact ⟨rfl, c⟩
    · cases h
  · cases h
def downD (i j : Int) : List Dt := (List.range (i - j).toNat).map fun (k : Nat) => .int (i - (k : Int))
def gRng3 (g : List Dt → O (List Dt)) : List Dt → O (List Dt) := fun ρ => bnd (g ρ) fun ds => match rng3 ds with
  | some p => .ok (downD p.1 p.2)
  | none => .bad
section
variable {K : PySem.W.Frag} {W : Wt} {Δ : List Kd}
theorem downD_len (i j : Int) : (downD i j).length = (i - j).toNat := by unfold downD; simp
theorem sc_down {i j : Int} : Sc K (Itc i (-1) (i - j).toNat) none [] [] (downD i j) where
  goes := fun k H hi' _ => by rw [downD_len] at hi'; exact hi'
  stops := fun H _ => by rw [downD_len]; exact Nat.le_refl _
  yields := fun k H x H' hi' _ y => by
    obtain ⟨e, y⟩ := y
    subst e y
    refine ⟨Same.refl _, fun F r => ⟨_, ?_, .int _⟩⟩
    rw [downD_len] at hi'
    unfold downD
    rw [List.getElem?_map, List.getElem?_range hi']
    have e : i - (k : Int) = i + (k : Nat) * (-1) := by omega
    rw [← e]
    rfl
theorem si_rng3 {tA : TA} {gA : List Dt → O (List Dt)} {av fr : Bool} (h : SA K W Δ tA av fr gA) : SI K W Δ (iRng3 tA) false true (gRng3 gA) := fun f ρ σ H Rk R q => by
  refine h f ρ σ H _ R ?_
  unfold gRng3 at q
  cases e1 : gA ρ with
  | bad => rw [e1] at q; exact q
  | ex z => rw [e1] at q; exact q
  | ok ds =>
    rw [e1, bnd_ok] at q
    intro vs H1 s1 x1
    cases er : rng3 ds with
    | none => rw [er] at q; exact q.elim
    | some p =>
      rw [er] at q
      obtain ⟨e, b1, b2, b3, b4⟩ := rng3_inv er
      subst e
      cases x1 with
      | cons x1 xr =>
        cases xr with
        | cons x2 xr =>
          cases xr with
          | cons x3 xr =>
            cases xr
            rw [rpInt x1, rpInt x2, rpInt x3]
            exact ⟨p.1, p.2, -1, (p.1 - p.2).toNat, rfl, RgC.neg b1 b2 b3 b4, q _ H1 none [] [] s1 (fun _ => rfl) (fun _ e => nomatch e) .nil sc_down⟩
theorem i_rng3 {X : Cx} {tg a b c : Expr} {tA : TA} {gA : List Dt → O (List Dt)} {av fr : Bool} {pos p : Pos} (hm : X.mg "range" = none) (h : AD X K W Δ [a, b, c] tA av fr gA) (hg : Gl X "range" := by rfl)
    (hs : starEach [a, b, c] X.env = (false, eval a X.env) :: starEach [b, c] X.env := by rfl) (hpl : (backTo pos (starEach [b, c] X.env)).any (·.1) = false := by rfl) : ID X K W Δ tg (.Call (.Name "range" p) [a, b, c] [] pos) (iRng3 tA) false true (gRng3 gA) := ⟨pi_range3 hg hm h.pa hs hpl, h.hK, si_rng3 h.sa⟩
end
/-! ### << -/
def hShl := hI cPow fun i j => i * 2 ^ j.toNat
theorem x_shl {X : Cx} {K : PySem.W.Frag} {W : Wt} {Δ : List Kd} {a b : Expr} {ta tb : TE} {ga gb : Gd} {av fr av' fr' : Bool} {pos : Pos} (ha : PD X K W Δ a ta (.v av fr) ga) (hb : PD X K W Δ b tb (.v av' fr') gb) : PD X K W Δ (.BinOp a .LShift b pos) (tOp (rI CPow fun i j => .int (i * 2 ^ j.toNat)) ta tb) (.v true true) (gOp hShl ga gb) := ⟨pe_op op_shl ha.pe hb.pe, ha.hK, se_op scl_I (osc_I fun _ _ => cPow_ok) ha.se hb.se⟩
/-! ### plain lemmas -/
theorem gChain_def (h h' : Dt → Dt → O Dt) (ga gb gc : Gd) (ρ : List Dt) : gChain h h' ga gb gc ρ = bnd (ga ρ) fun x => bnd (gb ρ) fun y => bnd (h x y) fun z => bnd (asB z) fun c => if c then bnd (gc ρ) fun w => h' y w else .ok (.bool false) := rfl
theorem hIsa_int (i : Int) : hIsa .int (.int i) = .ok (.bool true) := rfl
theorem hIsa_intb (i : Int) : hIsa .bool (.int i) = .ok (.bool false) := rfl
theorem hIsa_list (x : List Dt) : hIsa .list (.list x) = .ok (.bool true) := rfl
theorem hIsa_tuple (x : List Dt) : hIsa .tuple (.tuple x) = .ok (.bool true) := rfl
theorem gDrop_def (g : Gd) (ρ : List Dt) : gDrop g ρ = bnd (g ρ) fun _ => .ok (.nx ρ) := rfl
theorem fnN_nx {m : Nat} {g : Gs} {ds ρ : List Dt} (h : g (ds ++ List.replicate (m - ds.length) .none) = .ok (.nx ρ)) : fnN m g ds = .ok .none := by unfold fnN; rw [h]
theorem lsI_ok {gI : List Dt → O (List Dt)} {ρ ds : List Dt} (h : gI ρ = .ok ds) (hl : ds.length ≤ 100000) : gLsI gI ρ = .ok (.list ds) := by unfold gLsI; rw [h, bnd_ok, if_pos hl]
theorem rev_ok {gA : List Dt → O (List Dt)} {ρ es : List Dt} (h : gA ρ = .ok [.list es]) : gRev gA ρ = .ok es.reverse := by unfold gRev; rw [h]; rfl
theorem enum_ok {gA : List Dt → O (List Dt)} {ρ es : List Dt} (h : gA ρ = .ok [.list es]) : gEnum gA ρ = .ok (enumD es) := by unfold gEnum; rw [h]; rfl
theorem zip_ok {gA : List Dt → O (List Dt)} {ρ es fs : List Dt} (h : gA ρ = .ok [.list es, .list fs]) : gZip gA ρ = .ok (zipD es fs) := by unfold gZip; rw [h]; rfl
theorem rng3_ok {g : List Dt → O (List Dt)} {ρ : List Dt} {i j : Int} (h : g ρ = .ok [.int i, .int j, .int (-1)]) (h1 : -4611686018427387904 ≤ j) (h2 : j < 4611686018427387904) (h3 : -4611686018427387904 ≤ i) (h4 : i < 4611686018427387904) : gRng3 g ρ = .ok (downD i j) := by
  unfold gRng3
  rw [h, bnd_ok]
  unfold rng3
  simp only
  rw [if_pos ⟨trivial, by omega, by omega, by omega, by omega⟩]
theorem hAll_b (xs : List Bool) : hAll [.list (xs.map .bool)] = .ok (.bool (xs.all id)) := by
  unfold hAll
  simp only [allB_map]
theorem setI_ok {i : Nat} {ge gi : Gd} {ρ ds : List Dt} {d : Dt} {j : Int} (h1 : ge ρ = .ok d) (h2 : ρ[i]? = some (.list ds)) (h3 : gi ρ = .ok (.int j)) (j0 : 0 ≤ j) (j1 : j < ds.length) : gSetI i ge gi ρ = .ok (.nx (ρ.set i (.list (ds.set j.toNat d)))) := by
  unfold gSetI
  have e : ixN ds.length j = some j.toNat := by
    unfold ixN
    repeat (first | rw [if_pos (by omega)] | rw [if_neg (by omega)])
  rw [h1, bnd_ok, h2]
  simp only
  rw [h3, bnd_ok]
  simp only [e]
theorem enumD_map {α : Type} (f : α → Dt) (xs : List α) : enumD (xs.map f) = (xs.zipIdx.map fun p => .tuple [.int (p.2 : Nat), f p.1]) := by
  unfold enumD
  rw [List.zipIdx_map, List.map_map]
  rfl
theorem zipD_map {α β : Type} (f : α → Dt) (g : β → Dt) (xs : List α) (ys : List β) : zipD (xs.map f) (ys.map g) = ((xs.zip ys).map fun p => .tuple [f p.1, g p.2]) := by
  unfold zipD
  rw [List.zip_map, List.map_map]
  rfl
end Sim
end T_SimI

section T_SimJ
set_option Elab.async false
set_option linter.all false
set_option maxRecDepth 100000
/-! SimJ: dicts of one's own (keys ints or strs), xs[::-1], is of bools. -/
namespace Sim
open PySem PySem.Spec L2
open PyProof.Rows hiding St

/-! ### dicts as data -/
def isK : Key → Dt → Bool
  | .inl i, .int j => decide (j = i)
  | .inr x, .str y => decide (y = x)
  | _, _ => false
def keyOf : Dt → Option Key
  | .int i => some (.inl i)
  | .str x => some (.inr x)
  | _ => none
def dGet (es : List (Dt × Dt)) (k : Key) : Option Dt := (es.find? fun e => isK k e.1).map (·.2)
def dPut (es : List (Dt × Dt)) (k : Key) (v : Dt) : List (Dt × Dt) := if (es.any fun e => isK k e.1) = true then es.map (fun e => if isK k e.1 = true then (e.1, v) else e) else es ++ [(keyD k, v)]
def dDrop (es : List (Dt × Dt)) (k : Key) : List (Dt × Dt) := es.filter fun e => !isK k e.1
section
variable {K : PySem.W.Frag} {F F' : Addr → Prop} {H H' : Hp}
theorem isK_keyD (k k' : Key) : isK k (keyD k') = decide (k' = k) := by
  cases k <;> cases k' <;> simp [isK, keyD]
theorem kV_keyOf {v : V} {d : Dt} {k : Key} (x : Rp K F H v d) (e : keyOf d = some k) : v = kV k := by
  cases x <;> cases e <;> rfl
theorem KvA.length : ∀ {kvs : List (Key × V)} {es : List (Dt × Dt)}, KvA K F H kvs es → kvs.length = es.length
  | _, _, .nil => rfl
  | _, _, .cons _ r => by rw [List.length_cons, List.length_cons, r.length]
theorem KvA.get (k : Key) : ∀ {kvs : List (Key × V)} {es : List (Dt × Dt)}, KvA K F H kvs es → (valV kvs k = none ∧ dGet es k = none) ∨ ∃ v d, valV kvs k = some v ∧ dGet es k = some d ∧ Rp K F H v d
  | _, _, .nil => .inl ⟨rfl, rfl⟩
  | _, _, .cons (k := k') (v := v) (d := d) (kvs := kvs) (es := es) h r => by
    by_cases c : k' = k
    · refine .inr ⟨v, d, valV_pos c, ?_, h⟩
      unfold dGet
      rw [List.find?_cons_of_pos (by rw [isK_keyD]; simpa using c)]
      rfl
    · rw [valV_neg c]
      have e : dGet ((keyD k', d) :: es) k = dGet es k := by
        unfold dGet
        rw [List.find?_cons_of_neg (by rw [isK_keyD]; simpa using c)]
      rw [e]
      exact r.get k
theorem KvA.any (k : Key) : ∀ {kvs : List (Key × V)} {es : List (Dt × Dt)}, KvA K F H kvs es → (kvs.any fun kv => decide (kv.1 = k)) = es.any fun e => isK k e.1
  | _, _, .nil => rfl
  | _, _, .cons h r => by rw [List.any_cons, List.any_cons, r.any k, isK_keyD]
theorem KvA.snoc {k : Key} {v : V} {d : Dt} (x : Rp K F H v d) : ∀ {kvs : List (Key × V)} {es : List (Dt × Dt)}, KvA K F H kvs es → KvA K F H (kvs ++ [(k, v)]) (es ++ [(keyD k, d)])
  | _, _, .nil => .cons x .nil
  | _, _, .cons h r => .cons h (r.snoc x)
theorem KvA.over {k : Key} {v : V} {d : Dt} (x : Rp K F H v d) : ∀ {kvs : List (Key × V)} {es : List (Dt × Dt)}, KvA K F H kvs es → KvA K F H (kvs.map fun kv => if kv.1 = k then (kv.1, v) else kv) (es.map fun e => if isK k e.1 = true then (e.1, d) else e)
  | _, _, .nil => .nil
  | _, _, .cons (k := k') h r => by
    rw [List.map_cons, List.map_cons, isK_keyD]
    by_cases c : k' = k
    · rw [if_pos c, if_pos (by simpa using c)]
      exact .cons x (r.over x)
    · rw [if_neg c, if_neg (by simpa using c)]
      exact .cons h (r.over x)
theorem KvA.put {k : Key} {v : V} {d : Dt} (x : Rp K F H v d) {kvs : List (Key × V)} {es : List (Dt × Dt)} (h : KvA K F H kvs es) : KvA K F H (putK kvs k v) (dPut es k d) := by
  unfold putK dPut
  rw [h.any k]
  split
  · exact h.over x
  · exact h.snoc x
theorem KvA.drop (k : Key) : ∀ {kvs : List (Key × V)} {es : List (Dt × Dt)}, KvA K F H kvs es → KvA K F H (dropK kvs k) (dDrop es k)
  | _, _, .nil => .nil
  | _, _, .cons (k := k') h r => by
    unfold dropK dDrop
    rw [List.filter_cons, List.filter_cons, isK_keyD]
    by_cases c : k' = k
    · rw [if_neg (by simpa using c), if_neg (by simpa using c)]
      exact r.drop k
    · rw [if_pos (by simpa using c), if_pos (by simpa using c)]
      exact .cons h (r.drop k)
end

/-! ### closures -/
def gDNew : Gd := fun _ => .ok (.dict [])
def dAt (ρ : List Dt) (i : Nat) : Option (List (Dt × Dt)) := match ρ[i]? with
  | some (.dict es) => some es
  | _ => none
def gDGet (i : Nat) (gk : Gd) : Gd := fun ρ => match dAt ρ i with
  | some es => bnd (gk ρ) fun kd => (match keyOf kd with
    | some k => (match dGet es k with
      | some d => .ok d
      | none => .bad)
    | none => .bad)
  | none => .bad
def gDIn (neg : Bool) (i : Nat) (gk : Gd) : Gd := fun ρ => bnd (gk ρ) fun kd => match dAt ρ i with
  | some es => (match keyOf kd with
    | some k => .ok (.bool (if neg then !(dGet es k).isSome else (dGet es k).isSome))
    | none => .bad)
  | none => .bad
def gDPut (i : Nat) (gv gk : Gd) : Gs := fun ρ => bnd (gv ρ) fun v => match dAt ρ i with
  | some es => bnd (gk ρ) fun kd => (match keyOf kd with
    | some k => if es.length < 100000 then .ok (.nx (ρ.set i (.dict (dPut es k v)))) else .bad
    | none => .bad)
  | none => .bad
theorem dAt_inv {ρ : List Dt} {i : Nat} {es : List (Dt × Dt)} (h : dAt ρ i = some es) : ρ[i]? = some (.dict es) := by
  unfold dAt at h
  split at h
  · cases h; assumption
  · cases h

section
variable {K : PySem.W.Frag} {W : Wt} {Δ Δb Δc : List Kd} {te ti : TE} {g ge gk : Gd} {fr fr' av : Bool} {L : Lk} {i : Nat}
theorem dk_own {f : Fm} {ρ : List Dt} {σ : L2.St} {H : Hp} {es : List (Dt × Dt)} (r : R K f Δ ρ σ H) (hk : Δ[i]? = some (.own .dk fr)) (h : dAt ρ i = some es) :
    ∃ p kvs, σ[i]? = some (some (V.ref p)) ∧ f.H0 p = none ∧ H p = some (.dK kvs) ∧ KvA K (FM f Δ σ true fr) H kvs es := by
  obtain ⟨p, d, g1, g2, g3, kvs, es', ed, g4, g5⟩ := r.ow i .dk fr hk
  rw [dAt_inv h] at g2
  cases g2
  cases ed
  exact ⟨p, kvs, g1, g3, g4, g5⟩
theorem se_dnew : SE K W Δ tDNewK (.new .dk true) gDNew := fun f ρ σ H Q r q => fun p np => q p _ np (same_upd np) ⟨[], [], rfl, upd_same, .nil⟩
theorem se_dget (hk : Δ[i]? = some (.own .dk fr)) (h : SE K W Δ ti (.v av fr') gk) : SE K W Δ (tDGet (tVar i) ti) (.v true fr) (gDGet i gk) := fun f ρ σ H Q r q => by
  unfold gDGet at q
  cases ed : dAt ρ i with
  | none => rw [ed] at q; exact q.elim
  | some es =>
    rw [ed] at q
    obtain ⟨p, kvs, g1, g3, g4, g5⟩ := dk_own r hk ed
    refine ⟨_, g1, h f ρ σ H _ r ?_⟩
    simp only at q
    cases e2 : gk ρ with
    | bad => rw [e2] at q; exact q
    | ex z => rw [e2] at q; exact q
    | ok kd =>
      rw [e2, bnd_ok] at q
      intro kv H1 s1 xk
      cases ek : keyOf kd with
      | none => rw [ek] at q; exact q.elim
      | some k =>
        rw [ek] at q
        simp only at q
        rw [kV_keyOf xk ek]
        rcases g5.get k with ⟨_, e⟩ | ⟨v, d, e1, e, x⟩
        · rw [e] at q; exact q.elim
        · rw [e] at q
          refine ⟨p, v, rfl, ?_, q v H1 s1 (x.same s1)⟩
          rw [← e1]
          exact DGet.k (s1 _ _ g4)
theorem se_din (neg : Bool) (hk : Δ[i]? = some (.own .dk fr)) (h : SE K W Δ ti (.v av fr') gk) : SE K W Δ (if neg then tDNotIn ti (tVar i) else tDIn ti (tVar i)) (.v true true) (gDIn neg i gk) := fun f ρ σ H Q r q => by
  have key : ti σ H (fun y H1 => tVar i σ H1 fun x H2 => ∃ a o, x = .ref a ∧ DGet H2 a y o ∧ Q (.bl (if neg then !o.isSome else o.isSome)) H2) := by
    refine h f ρ σ H _ r ?_
    unfold gDIn at q
    cases e2 : gk ρ with
    | bad => rw [e2] at q; exact q
    | ex z => rw [e2] at q; exact q
    | ok kd =>
      rw [e2, bnd_ok] at q
      intro kv H1 s1 xk
      cases ed : dAt ρ i with
      | none => rw [ed] at q; exact q.elim
      | some es =>
        rw [ed] at q
        simp only at q
        obtain ⟨p, kvs, g1, g3, g4, g5⟩ := dk_own r hk ed
        cases ek : keyOf kd with
        | none => rw [ek] at q; exact q.elim
        | some k =>
          rw [ek] at q
          simp only at q
          rw [kV_keyOf xk ek]
          refine ⟨_, g1, p, valV kvs k, rfl, DGet.k (s1 _ _ g4), ?_⟩
          have eq : (valV kvs k).isSome = (dGet es k).isSome := by
            rcases g5.get k with ⟨e1, e⟩ | ⟨v, d, e1, e, x⟩ <;> rw [e1, e] <;> rfl
          rw [eq]
          exact q _ H1 s1 (.bl _)
  cases neg with
  | true => exact key
  | false => exact key
theorem s_dput (hk : Δ[i]? = some (.own .dk fr)) (h : SE K W Δ te (.v true fr') ge) (h2 : SE K W Δ ti (.v av av') gk) : SS K W L Δ (Δ.set i (.own .dk (fr && fr'))) Δb Δc (sDPut (tVar i) ti te) (gDPut i ge gk) := fun f ρ σ H E r q => h f ρ σ H _ r <| by
  unfold gDPut at q
  cases e : ge ρ with
  | bad => rw [e] at q; exact q
  | ex z => rw [e] at q; exact fun H' s => q σ H' (r.ext.trans s)
  | ok d =>
    rw [e, bnd_ok] at q
    cases ed : dAt ρ i with
    | none => rw [ed] at q; exact q.elim
    | some es =>
      rw [ed] at q
      simp only at q
      obtain ⟨p, kvs, g1, g3, g4, g5⟩ := dk_own r hk ed
      intro v H1 s x
      refine ⟨_, g1, h2 f ρ σ H1 _ (r.mono s) ?_⟩
      cases e2 : gk ρ with
      | bad => rw [e2] at q; exact q
      | ex z => rw [e2] at q; exact fun H' s2 => q σ H' ((r.ext.trans s).trans s2)
      | ok kd =>
        rw [e2, bnd_ok] at q
        intro kv H2 s2 xk
        cases ek : keyOf kd with
        | none => rw [ek] at q; exact q.elim
        | some k =>
          rw [ek] at q
          simp only at q
          by_cases hl : es.length < 100000
          · rw [if_pos hl] at q
            rw [kV_keyOf xk ek]
            have s12 := s.trans s2
            have hp := s12 _ _ g4
            refine ⟨p, _, rfl, DPut.k hp (by rw [g5.length]; exact Nat.lt_of_lt_of_le hl (by decide)), q σ _ ?_⟩
            refine (r.mono s12).updOwn hk g1 (c' := .dk) (show Mutb (.dK _) from trivial) ⟨_, _, rfl, upd_same, ?_⟩
            have nf : ∀ {fr : Bool} (a : Addr), FM f Δ σ true fr a → a ≠ p := fun a fa z => (fa.1 rfl).1 (z ▸ ⟨i, .dk, _, hk, g1⟩)
            refine KvA.put ((Rp.updM hp trivial (fun a fa => nf a fa) (x.same s2)).weak fun a y => y.weak id fun h => (Bool.and_eq_true_iff.mp h).2) ?_
            exact g5.map fun v d z => (Rp.updM hp trivial (fun a fa => nf a fa) (z.same s12)).weak fun a y => y.weak id fun h => (Bool.and_eq_true_iff.mp h).1
          · rw [if_neg hl] at q
            exact q.elim
def gDPop (i : Nat) (gk : Gd) (hh : Dt → List Dt → O (List Dt)) : Gs := fun ρ => match dAt ρ i with
  | some es => bnd (gk ρ) fun kd => (match keyOf kd with
    | some k => (match dGet es k with
      | some d => (match hh d (ρ.set i (.dict (dDrop es k))) with
        | .ok ρ' => .ok (.nx ρ')
        | _ => .bad)
      | none => .bad)
    | none => .bad)
  | none => .bad
theorem set_self {α : Type} {l : List α} {i : Nat} {a : α} (h : l[i]? = some a) : l.set i a = l := by
  apply List.ext_getElem?
  intro j
  by_cases c : i = j
  · subst c
    rw [List.getElem?_set_self (List.getElem?_eq_some_iff.mp h).1, h]
  · rw [List.getElem?_set_ne c]
theorem s_dpop {gg : TG} {sl : List Nat} {n : Nat} {hh : Dt → List Dt → O (List Dt)} {TK : Bool → List Kd → List Kd} (hn : Δ.length = n) (hk : Δ[i]? = some (.own .dk fr)) (h : SE K W Δ ti (.v av fr') gk) (hg : GJ K n gg sl hh TK) :
    SS K W L Δ (TK fr Δ) Δb Δc (tAsg (tDPop1 (tVar i) ti) gg) (gDPop i gk hh) := fun f ρ σ H E r q => by
  unfold gDPop at q
  cases ed : dAt ρ i with
  | none => rw [ed] at q; exact q.elim
  | some es =>
    rw [ed] at q
    simp only at q
    obtain ⟨p, kvs, g1, g3, g4, g5⟩ := dk_own r hk ed
    refine ⟨_, g1, p, rfl, .inl ⟨kvs, .inl g4⟩, h f ρ σ H _ r ?_⟩
    cases e2 : gk ρ with
    | bad => rw [e2] at q; exact q
    | ex z => rw [e2] at q; exact fun H' s2 => q σ H' (r.ext.trans s2)
    | ok kd =>
      rw [e2, bnd_ok] at q
      intro kv H1 s1 xk
      cases ek : keyOf kd with
      | none => rw [ek] at q; exact q.elim
      | some k =>
        rw [ek] at q
        simp only at q
        rcases g5.get k with ⟨_, e⟩ | ⟨v, d, e1, e, x⟩
        · rw [e] at q; exact q.elim
        · rw [e] at q
          simp only at q
          have hp := s1 _ _ g4
          refine ⟨kvs, k, v, hp, kV_keyOf xk ek, e1, ?_⟩
          have nf : ∀ {fr : Bool} (a : Addr), FM f Δ σ true fr a → a ≠ p := fun a fa z => (fa.1 rfl).1 (z ▸ ⟨i, .dk, _, hk, g1⟩)
          have r2 := (r.mono s1).updOwn hk g1 (c' := .dk) (fr' := fr) (o' := .dK (dropK kvs k)) (show Mutb (.dK _) from trivial) ⟨_, _, rfl, upd_same, (g5.map fun v d z => Rp.updM (o' := .dK (dropK kvs k)) hp trivial (fun a fa => nf a fa) (z.same s1)).drop k⟩
          rw [set_self hk] at r2
          refine hg f Δ _ σ _ v d fr _ hn r2 (Rp.updM hp trivial (fun a fa => nf a fa) (x.same s1)) ?_
          cases e3 : hh d (ρ.set i (.dict (dDrop es k))) with
          | bad => rw [e3] at q; exact q.elim
          | ex z => rw [e3] at q; exact q.elim
          | ok ρ' =>
            rw [e3] at q
            exact fun σ' t => q σ' _ t.r
end
/-! ### rules for a text -/
section
variable {X : Cx} {K : PySem.W.Frag} {W : Wt} {Δ Δb Δc : List Kd} {a b e tg : Expr} {te ti : TE} {g ge gk : Gd} {fr fr' av av' : Bool} {L : Lk} {pos p pos' : Pos} {x : Str} {m : Nat}
theorem x_dnew (hK : X.K = K := by rfl) : PD X K W Δ (.Dict [] [] pos) tDNewK (.new .dk true) gDNew := ⟨pe_dnewK, hK, se_dnew⟩
theorem x_dget (i : Nat) (hr : Room m X.A) (h : PD X K W Δ e te (.v av fr') g) (hk : Δ[i]? = some (.own .dk fr) := by rfl) (hv : Vis X.env.scope x := by first | exact Or.inl rfl | exact Or.inr (Or.inl rfl) | exact Or.inr (Or.inr rfl)) (hN : X.N[i]? = some x := by rfl) (hd : (x == ("__debug__" : Str)) = false := by decide) (hcd : (x == ("__classdict__" : Str)) = false := by decide) (hs : NoSl e := by exact fun _ _ => rfl) :
    PD X K W Δ (.Subscript (.Name x p) e pos) (tDGet (tVar i) te) (.v true fr) (gDGet i g) := ⟨pe_dget (by have := hr.un; omega) (pe_var hN hv hd hcd) h.pe hs, h.hK, se_dget hk h.se⟩
theorem x_din (i : Nat) (hr : Room m X.A) (h : PD X K W Δ e te (.v av fr') g) (hk : Δ[i]? = some (.own .dk fr) := by rfl) (hv : Vis X.env.scope x := by first | exact Or.inl rfl | exact Or.inr (Or.inl rfl) | exact Or.inr (Or.inr rfl)) (hN : X.N[i]? = some x := by rfl) (hd : (x == ("__debug__" : Str)) = false := by decide) (hcd : (x == ("__classdict__" : Str)) = false := by decide) (hm : behindInMarks .In (.Name x p) = false := by rfl) :
    PD X K W Δ (.Compare e [.In] [.Name x p] pos) (tDIn te (tVar i)) (.v true true) (gDIn false i g) := ⟨pe_cmp (pc_din (by have := hr.un; omega) h.pe (pe_var hN hv hd hcd)) hm, h.hK, se_din false hk h.se⟩
theorem x_dnin (i : Nat) (hr : Room m X.A) (h : PD X K W Δ e te (.v av fr') g) (hk : Δ[i]? = some (.own .dk fr) := by rfl) (hv : Vis X.env.scope x := by first | exact Or.inl rfl | exact Or.inr (Or.inl rfl) | exact Or.inr (Or.inr rfl)) (hN : X.N[i]? = some x := by rfl) (hd : (x == ("__debug__" : Str)) = false := by decide) (hcd : (x == ("__classdict__" : Str)) = false := by decide) (hm : behindInMarks .NotIn (.Name x p) = false := by rfl) :
    PD X K W Δ (.Compare e [.NotIn] [.Name x p] pos) (tDNotIn te (tVar i)) (.v true true) (gDIn true i g) := ⟨pe_cmp (pc_dnotin (by have := hr.un; omega) h.pe (pe_var hN hv hd hcd)) hm, h.hK, se_din true hk h.se⟩
theorem c_din (i : Nat) (hr : Room m X.A) (h : PD X K W Δ e te (.v av fr') g) (hk : Δ[i]? = some (.own .dk fr) := by rfl) (hv : Vis X.env.scope x := by first | exact Or.inl rfl | exact Or.inr (Or.inl rfl) | exact Or.inr (Or.inr rfl)) (hN : X.N[i]? = some x := by rfl) (hd : (x == ("__debug__" : Str)) = false := by decide) (hcd : (x == ("__classdict__" : Str)) = false := by decide) (hm : behindInMarks .In (.Name x p) = false := by rfl) :
    TD X K W Δ (.Compare e [.In] [.Name x p] pos) (tB (tDIn te (tVar i))) (gTest (gDIn false i g)) := ⟨pt_cmp (pc_din (by have := hr.un; omega) h.pe (pe_var hN hv hd hcd)) hm, h.hK, st_B (se_din false hk h.se)⟩
theorem c_dnin (i : Nat) (hr : Room m X.A) (h : PD X K W Δ e te (.v av fr') g) (hk : Δ[i]? = some (.own .dk fr) := by rfl) (hv : Vis X.env.scope x := by first | exact Or.inl rfl | exact Or.inr (Or.inl rfl) | exact Or.inr (Or.inr rfl)) (hN : X.N[i]? = some x := by rfl) (hd : (x == ("__debug__" : Str)) = false := by decide) (hcd : (x == ("__classdict__" : Str)) = false := by decide) (hm : behindInMarks .NotIn (.Name x p) = false := by rfl) :
    TD X K W Δ (.Compare e [.NotIn] [.Name x p] pos) (tB (tDNotIn te (tVar i))) (gTest (gDIn true i g)) := ⟨pt_cmp (pc_dnotin (by have := hr.un; omega) h.pe (pe_var hN hv hd hcd)) hm, h.hK, st_B (se_din true hk h.se)⟩
theorem z_dput (i : Nat) (hr : Room m X.A) (h : PD X K W Δ e te (.v true fr') ge) (h2 : PD X K W Δ b ti (.v av av') gk) (hk : Δ[i]? = some (.own .dk fr) := by rfl) (hv : Vis X.env.scope x := by first | exact Or.inl rfl | exact Or.inr (Or.inl rfl) | exact Or.inr (Or.inr rfl)) (hN : X.N[i]? = some x := by rfl) (hd : (x == ("__debug__" : Str)) = false := by decide) (hcd : (x == ("__classdict__" : Str)) = false := by decide) (hs : swapsWith e (some (.Subscript (.Name x p) b pos')) pos.line X.env = pure false := by rfl) :
    SD X K W L Δ (Δ.set i (.own .dk (fr && fr'))) Δb Δc (.Assign [.Subscript (.Name x p) b pos'] e pos) (sDPut (tVar i) ti te) (gDPut i ge gk) := ⟨ps_dput (by have := hr.un; omega) (pe_var hN hv hd hcd) h2.pe h.pe hs, h.hK, s_dput hk h.se h2.se⟩
theorem z_dpop (i : Nat) {n : Nat} {gg : TG} {sl : List Nat} {hh : Dt → List Dt → O (List Dt)} {TK : Bool → List Kd → List Kd} {apos cpos : Pos} (h : PD X K W Δ e ti (.v av fr') gk) (hg : GD X K n tg gg sl hh TK) (hk : Δ[i]? = some (.own .dk fr) := by rfl) (hv : Vis X.env.scope x := by first | exact Or.inl rfl | exact Or.inr (Or.inl rfl) | exact Or.inr (Or.inr rfl)) (hN : X.N[i]? = some x := by rfl) (hd : (x == ("__debug__" : Str)) = false := by decide) (hcd : (x == ("__classdict__" : Str)) = false := by decide) (hn : Δ.length = n := by rfl)
    (m1 : attributeBase (.Name x p) "pop" X.env (eval (.Name x p) X.env) = eval (.Name x p) X.env := by rfl)
    (m2 : ((backTo cpos (starEach [e] X.env)).all (fun x => !x.1) && (backToKw cpos (keywordEach [] X.env)).all (fun x => x.1.isSome) && decide (([e] : List Expr).length + ([] : List Keyword).length + (if ([] : List Keyword).isEmpty then 0 else 1) < 30)) = true := by rfl)
    (m3 : (apos.endLine == cpos.line) = true := by rfl) (m4 : backTo cpos (starEach [e] X.env) = [(false, eval e X.env)] := by rfl)
    (hs : swapsWithSole [tg] (.Call (.Attribute (.Name x p) "pop" apos) [e] [] cpos) pos.line X.env = pure false := by rfl) (hw : swappedStores [tg] (.Call (.Attribute (.Name x p) "pop" apos) [e] [] cpos) X.env = pure none := by rfl) (h1 : (assignEach [tg] X.env).map (·.2) = [assign tg X.env] := by rfl) :
    SD X K W L Δ (TK fr Δ) Δb Δc (.Assign [tg] (.Call (.Attribute (.Name x p) "pop" apos) [e] [] cpos) pos) (tAsg (tDPop1 (tVar i) ti) gg) (gDPop i gk hh) :=
  ⟨ps_asg (pe_dpop1 (pe_var hN hv hd hcd) h.pe ⟨m1, m2, m3, m4⟩) hg.pg hs hw h1, h.hK, s_dpop hn hk h.se hg.gj⟩

/-! ### xs[::-1] -/
def hRevL : Dt → O Dt := fun d => match d with
  | .list ds => .ok (.list ds.reverse)
  | _ => .bad
theorem se_revL (ha : SE K W Δ te (.v true fr) g) : SE K W Δ (tRevL K te) (.new .l fr) (gUn hRevL g) := fun f ρ σ H Q R q => by
  refine ha f ρ σ H _ R ?_
  unfold gUn at q
  cases e1 : g ρ with
  | bad => rw [e1] at q; exact q
  | ex z => rw [e1] at q; exact q
  | ok d =>
    rw [e1, bnd_ok] at q
    intro v H1 s1 x1
    cases d with
    | list es =>
      obtain ⟨c, xs, rfl, hs, r⟩ := x1.sql
      exact ⟨c, xs, rfl, hs, fun p np => q p _ (s1.free np) (s1.trans (same_upd np)) ⟨_, _, rfl, upd_same, r.reverse.mono (same_upd np) fun a y z => ⟨y, fun e => z (e ▸ np)⟩⟩⟩
    | _ => exact q.elim
theorem se_revLO (ha : SE K W Δ te (.o fr) g) : SE K W Δ (tRevL K te) (.new .l fr) (gUn hRevL g) := fun f ρ σ H Q R q => by
  refine ha f ρ σ H _ R ?_
  unfold gUn at q
  cases e1 : g ρ with
  | bad => rw [e1] at q; exact q
  | ex z => rw [e1] at q; exact q
  | ok d =>
    rw [e1, bnd_ok] at q
    intro p H1 vs ds ed s1 hp gp x1
    subst ed
    exact ⟨p, vs, rfl, .inl (.inl hp), fun p np => q p _ (s1.free np) (s1.trans (same_upd np)) ⟨_, _, rfl, upd_same, x1.reverse.mono (same_upd np) fun a y z => ⟨y, fun e => z (e ▸ np)⟩⟩⟩
theorem x_revL {k : Nat} {p1 p2 p3 : Pos} (h : PD X K W Δ e te (.v true fr) g) : PD X K W Δ (.Subscript e (.Slice none none (some (.UnaryOp .USub (.Constant (.int 1) k p1) p2)) p3) pos) (tRevL K te) (.new .l fr) (gUn hRevL g) := ⟨by have q := pe_revL (X := X) (k := k) (p1 := p1) (p2 := p2) (p3 := p3) (pos := pos) h.pe; rw [h.hK] at q; exact q, h.hK, se_revL h.se⟩
theorem x_revLO {k : Nat} {p1 p2 p3 : Pos} (h : PD X K W Δ e te (.o fr) g) : PD X K W Δ (.Subscript e (.Slice none none (some (.UnaryOp .USub (.Constant (.int 1) k p1) p2)) p3) pos) (tRevL K te) (.new .l fr) (gUn hRevL g) := ⟨by have q := pe_revL (X := X) (k := k) (p1 := p1) (p2 := p2) (p3 := p3) (pos := pos) h.pe; rw [h.hK] at q; exact q, h.hK, se_revLO h.se⟩

/-! ### is True, is not True -/
def hIsB : Dt → Dt → O Dt := fun d e => match d, e with
  | .bool a, .bool b => .ok (.bool (decide (a = b)))
  | _, _ => .bad
def hNotB : Dt → Dt → O Dt := fun d e => match d, e with
  | .bool a, .bool b => .ok (.bool (!decide (a = b)))
  | _, _ => .bad
theorem scl_isB : Scl2 hIsB := fun d e => by cases d <;> cases e <;> first | exact .inr rfl | exact .inl ⟨_, rfl, rfl⟩
theorem scl_notB : Scl2 hNotB := fun d e => by cases d <;> cases e <;> first | exact .inr rfl | exact .inl ⟨_, rfl, rfl⟩
theorem osc_isB : OSc K rIsB hIsB := fun H x y d e Q hx hy h => by
  cases hx <;> cases hy <;> first | exact h.elim | exact ⟨_, _, rfl, rfl, h.2 _ (.bl _)⟩
theorem osc_notB : OSc K rNotB hNotB := fun H x y d e Q hx hy h => by
  cases hx <;> cases hy <;> first | exact h.elim | exact ⟨_, _, rfl, rfl, h.2 _ (.bl _)⟩
theorem or_isB : OR X K .Is rIsB hIsB := ⟨op_isBl, scl_isB, osc_isB⟩
theorem or_notB : OR X K .IsNot rNotB hNotB := ⟨op_notBl, scl_notB, osc_notB⟩
end
/-! ### len(set(ints)) -/
def ddp (ns : List Int) : List Int := firstMet (fun i => ns.getD i 0) ns.length
theorem firstMet_le (val : Nat → Int) : ∀ i, (firstMet val i).length ≤ i
  | 0 => Nat.le_refl _
  | i + 1 => by
    rw [firstMet_succ]
    have := firstMet_le val i
    unfold step_dedup
    split
    · omega
    · rw [List.length_append, List.length_singleton]; omega
def tLenSetG (K : PySem.W.Frag) (ta : TE) : TE := fun σ H Q => ta σ H fun x H1 => ∃ (l : Addr) (ns : List Int), x = V.ref l ∧ SqL K H1 l (ns.map V.int) ∧ ns.length < 64 ∧ Q (.int (ddp ns).length) H1
def hLenSet : Dt → O Dt := fun d => match d with
  | .list xs => match allI xs with
    | some ns => if ns.length < 64 then .ok (.int (ddp ns).length) else .bad
    | none => .bad
  | _ => .bad
section
variable {X : Cx} {K : PySem.W.Frag} {W : Wt} {Δ : List Kd} {a : Expr} {ta te : TE} {g : Gd} {av fr : Bool} {p p2 q pos : Pos}
theorem pe_lenSetG (hc : X.calm = true) (hg : Gl X "len") (hm : X.mg "len" = none) (hg2 : Gl X "set") (hm2 : X.mg "set" = none) (ha : PE X a ta)
    (na : starEach [a] X.env = (false, eval a X.env) :: starEach [] X.env := by rfl) : PE X (.Call (.Name "len" p) [.Call (.Name "set" p2) [a] [] q] [] pos) (tLenSetG X.K ta) := by
  refine ⟨fun pins s σ H Q I h => ?_⟩
  refine Call_ (ld_blt I hg hm PySem.boot_len ?_)
  refine PyProof.Rows.callWith_builtin1 (PyProof.Rows.args_cons ?_ rfl) rfl rfl
  refine Call_ (ld_blt I hg2 hm2 PyProof.Rows.boot_set ?_)
  refine PyProof.Rows.callWith_type1 (PyProof.Rows.args_cons (thn (ha.run pins s σ H _ I h) fun v s1 ⟨x, H1, I1, r1, q1⟩ => PyProof.Rows.args_nil ?_) na) na rfl
  obtain ⟨l, ns, rfl, hq, h1, q1⟩ := q1
  cases r1
  obtain ⟨its, r, pl, hz⟩ := I1.list hq
  have hl : its.toArray.size = ns.length := by rw [List.size_toArray, ← r.length, List.length_map]
  refine call_set_list (I1.ok.hd hc) pl.isList (ns := ns) (by simpa using r.ints) (by unfold scanBound; omega) fun h' tk hS hk => ?_
  rw [hl] at hS
  have hd := firstMet_le (fun i => ns.getD i 0) ns.length
  refine PyProof.Rows.args_nil ?_
  obtain ⟨o, es, ep, t, ho, hex, hd', _, _, _, hf, hn⟩ := hS
  have I2 : Inv X pins σ H1 { s1 with heap := h', toks := tk } := I1.kept fun b o e => hk b o (Heap.lt_size e) e
  refine call_len_set ho hex hd' hf (by rw [hn] <;> omega) ⟨.int (ddp ns).length, H1, I2.tok _, ⟨_, by rw [hn] <;> rfl⟩, q1⟩
theorem se_lenSet (ha : SE K W Δ te (.v av fr) g) : SE K W Δ (tLenSetG K te) (.v true true) (gUn hLenSet g) := fun f ρ σ H Q R q => by
  refine ha f ρ σ H _ R ?_
  unfold gUn at q
  cases e1 : g ρ with
  | bad => rw [e1] at q; exact q
  | ex z => rw [e1] at q; exact q
  | ok d =>
    rw [e1, bnd_ok] at q
    intro v H1 s1 x1
    cases d with
    | list es =>
      unfold hLenSet at q
      simp only at q
      cases ea : allI es with
      | none => rw [ea] at q; exact q.elim
      | some ns =>
        rw [ea] at q
        simp only at q
        by_cases hl : ns.length < 64
        · rw [if_pos hl] at q
          obtain ⟨c, xs, rfl, hs, r⟩ := x1.sql
          rw [rp_ints r ea] at hs
          exact ⟨c, ns, rfl, hs, hl, q _ H1 s1 (.int _)⟩
        · rw [if_neg hl] at q
          exact q.elim
    | _ => exact q.elim
theorem x_lenSet (hm : X.mg "len" = none) (hm2 : X.mg "set" = none) (h : PD X K W Δ a te (.v av fr) g) (hc : X.calm = true := by rfl) (hg : Gl X "len" := by rfl) (hg2 : Gl X "set" := by rfl) (na : starEach [a] X.env = (false, eval a X.env) :: starEach [] X.env := by rfl) :
    PD X K W Δ (.Call (.Name "len" p) [.Call (.Name "set" p2) [a] [] q] [] pos) (tLenSetG K te) (.v true true) (gUn hLenSet g) := ⟨by have w := pe_lenSetG (X := X) (p := p) (p2 := p2) (q := q) (pos := pos) hc hg hm hg2 hm2 h.pe na; rw [h.hK] at w; exact w, h.hK, se_lenSet h.se⟩
end
theorem ddp_nodup {ns : List Int} : (ddp ns).length = ns.length ↔ ns.Nodup := by
  unfold ddp
  constructor
  · intro h
    have key : ∀ i, i ≤ ns.length → (firstMet (fun i => ns.getD i 0) i).length = i → firstMet (fun i => ns.getD i 0) i = ns.take i ∧ (ns.take i).Nodup := by
      intro i
      induction i with
      | zero => intro _ _; exact ⟨rfl, List.nodup_nil⟩
      | succ i ih =>
        intro hi hl
        have hlt : i < ns.length := hi
        rw [firstMet_succ] at hl ⊢
        have hle := firstMet_le (fun i => ns.getD i 0) i
        unfold step_dedup at hl ⊢
        by_cases c : ((firstMet (fun i => ns.getD i 0) i).any (· == ns.getD i 0)) = true
        · rw [if_pos c] at hl; omega
        · rw [if_neg c] at hl ⊢
          rw [List.length_append, List.length_singleton] at hl
          obtain ⟨e1, e2⟩ := ih (by omega) (by omega)
          rw [e1] at c ⊢
          have e : ns.getD i 0 = ns[i] := by rw [List.getD_eq_getElem?_getD, List.getElem?_eq_getElem hlt] <;> rfl
          rw [e] at c ⊢
          have et : ns.take (i + 1) = ns.take i ++ [ns[i]] := by rw [List.take_add_one, List.getElem?_eq_getElem hlt] <;> rfl
          rw [et]
          refine ⟨rfl, ?_⟩
          rw [List.nodup_append]
          refine ⟨e2, by simp, fun x hx y hy => ?_⟩
          rw [List.mem_singleton.mp hy]
          intro z
          subst z
          exact c (List.any_eq_true.mpr ⟨_, hx, by simp⟩)
    obtain ⟨_, e⟩ := key ns.length (Nat.le_refl _) h
    rwa [List.take_length] at e
  · intro h
    rw [L2.firstMet_nodup ns h ns.length (Nat.le_refl _), List.take_length]
end Sim
end T_SimJ

section T_SimS
set_option Elab.async false
set_option linter.all false
set_option maxRecDepth 100000
/-! SimS: sorted(list of tuples of ints), sorted(set(..)) of such and of ints: the hand layer's rules. -/
namespace Sim
/-- the order of lists of ints -/
def lxLt : List Int → List Int → Bool
  | _, [] => false
  | [], _ :: _ => true
  | x :: xs, y :: ys => if x = y then lxLt xs ys else decide (x < y)
theorem lxLt_cons (x y : Int) (xs ys : List Int) : lxLt (x :: xs) (y :: ys) = if x = y then lxLt xs ys else decide (x < y) := rfl
theorem lxLt_irr : ∀ xs : List Int, lxLt xs xs = false
  | [] => rfl
  | x :: xs => by rw [lxLt_cons, if_pos rfl, lxLt_irr xs]
theorem lxLt_trans : ∀ {xs ys zs : List Int}, lxLt xs ys = true → lxLt ys zs = true → lxLt xs zs = true
  | [], [], _, h, _ => by cases h
  | _ :: _, [], _, h, _ => by cases h
  | _, _ :: _, [], _, h => by cases h
  | [], _ :: _, _ :: _, _, _ => rfl
  | x :: xs, y :: ys, z :: zs, h, k => by
    rw [lxLt_cons] at h k ⊢
    by_cases e1 : x = y
    · rw [if_pos e1] at h
      subst e1
      by_cases e2 : x = z
      · rw [if_pos e2] at k ⊢
        exact lxLt_trans h k
      · rw [if_neg e2] at k ⊢
        exact k
    · rw [if_neg e1, decide_eq_true_eq] at h
      by_cases e2 : y = z
      · subst e2
        rw [if_neg e1, decide_eq_true_eq]
        exact h
      · rw [if_neg e2, decide_eq_true_eq] at k
        rw [if_neg (by omega), decide_eq_true_eq]
        omega
theorem lxLt_tri : ∀ {xs ys : List Int}, lxLt xs ys = false → lxLt ys xs = false → xs = ys
  | [], [], _, _ => rfl
  | [], _ :: _, h, _ => by cases h
  | _ :: _, [], _, h => by cases h
  | x :: xs, y :: ys, h, k => by
    rw [lxLt_cons] at h k
    by_cases e : x = y
    · rw [if_pos e] at h
      rw [if_pos e.symm] at k
      rw [e, lxLt_tri h k]
    · rw [if_neg e, decide_eq_false_iff_not] at h
      rw [if_neg (fun z => e z.symm), decide_eq_false_iff_not] at k
      omega
/-- how many of L are less -/
def lrk (L : List (List Int)) (ns : List Int) : Int := ((L.countP fun u => lxLt u ns) : Nat)
theorem count_le {α : Type} {f g : α → Bool} (h : ∀ u, f u = true → g u = true) : ∀ L : List α, L.countP f ≤ L.countP g
  | [] => Nat.le_refl _
  | x :: L => by
    have ih := count_le h L
    rw [List.countP_cons, List.countP_cons]
    cases e : f x with
    | true => rw [h x e]; simp; exact ih
    | false => simp; omega
theorem count_lt {α : Type} {f g : α → Bool} (h : ∀ u, f u = true → g u = true) {p : α} (h1 : f p = false) (h2 : g p = true) : ∀ L : List α, p ∈ L → L.countP f < L.countP g
  | x :: L, hp => by
    rw [List.countP_cons, List.countP_cons]
    rcases List.mem_cons.mp hp with e | hp
    · subst e
      have ih := count_le h L
      rw [h1, h2]
      simp
      omega
    · have ih := count_lt h h1 h2 L hp
      cases e : f x with
      | true => rw [h x e]; simp; exact ih
      | false => simp; omega
theorem lrk_lt {L : List (List Int)} {p q : List Int} (hp : p ∈ L) (hq : q ∈ L) : decide (lrk L p < lrk L q) = lxLt p q := by
  unfold lrk
  cases e : lxLt p q with
  | true =>
    rw [decide_eq_true_eq]
    have := count_lt (f := fun u => lxLt u p) (g := fun u => lxLt u q) (fun u h => lxLt_trans h e) (lxLt_irr p) e L hp
    omega
  | false =>
    rw [decide_eq_false_iff_not]
    cases e2 : lxLt q p with
    | true =>
      have := count_lt (f := fun u => lxLt u q) (g := fun u => lxLt u p) (fun u h => lxLt_trans h e2) (lxLt_irr q) e2 L hq
      omega
    | false =>
      rw [lxLt_tri e e2]
      omega
theorem lift_perm_to {α β : Type} (f : α → β) : ∀ {ys zs : List β}, ys.Perm zs → ∀ L : List α, zs = L.map f → ∃ L' : List α, L'.Perm L ∧ ys = L'.map f := by
  intro ys zs h
  induction h with
  | nil =>
    intro L e
    have : L = [] := List.map_eq_nil_iff.mp e.symm
    subst this
    exact ⟨[], List.Perm.refl _, rfl⟩
  | cons x _ ih =>
    intro L e
    cases L with
    | nil => cases e
    | cons a L =>
      rw [List.map_cons] at e
      injection e with e1 e2
      obtain ⟨L', h1, h2⟩ := ih L e2
      exact ⟨a :: L', h1.cons a, by rw [List.map_cons, e1, h2]⟩
  | swap x y l =>
    intro L e
    cases L with
    | nil => cases e
    | cons a L =>
      cases L with
      | nil => rw [List.map_cons, List.map_nil] at e; injection e with e1 e2; cases e2
      | cons b L =>
        rw [List.map_cons, List.map_cons] at e
        injection e with e1 e2
        injection e2 with e2 e3
        exact ⟨b :: a :: L, List.Perm.swap .., by rw [List.map_cons, List.map_cons, e1, e2, e3]⟩
  | trans _ _ ih1 ih2 =>
    intro L e
    obtain ⟨L2, h1, h2⟩ := ih2 L e
    obtain ⟨L3, h3, h4⟩ := ih1 L2 h2
    exact ⟨L3, h3.trans h1, h4⟩
end Sim
namespace TS
open PySem PyProof.Rows Sim
section
variable {prog : Program} {w : World} {A : Around} {E : Value → Shared → Prop} {s : Shared} {Q : Bool → Shared → Prop}
theorem lex_gen {b : Bool} {xs ys : List Value} {ns ms : List Int} (i : Nat) (hx : IntsAre xs ns) (hy : IntsAre ys ms) (h : Q (lxLt ns ms) s) : PySem.W.KatLex prog w A b (decide (ns.length < ms.length)) Q (xs.zip ys) i s := by
  induction hx generalizing ys ms i with
  | nil =>
    cases hy with
    | nil => exact PySem.W.kat_nil h
    | cons q u hy => exact PySem.W.kat_nil (by rw [show decide (([] : List Int).length < (q :: _).length) = true by simp]; exact h)
  | @cons p t xs ns hx ih =>
    cases hy with
    | nil => exact PySem.W.kat_nil (by rw [show decide ((p :: ns).length < ([] : List Int).length) = false by simp]; exact h)
    | @cons q u ys ms hy =>
      have e0 : decide ((p :: ns).length < (q :: ms).length) = decide (ns.length < ms.length) := by simp
      rw [e0]
      show PySem.W.KatLex prog w A b _ Q ((Value.int p t, Value.int q u) :: xs.zip ys) i s
      rw [lxLt_cons] at h
      refine PySem.W.kat_cons (wpAny_eqBool_int ?_)
      by_cases e : p = q
      · rw [if_pos e] at h
        subst e
        rw [beq_self_eq_true]
        exact PySem.W.kat_yes (ih (i + 1) hy h)
      · rw [if_neg e] at h
        rw [show (p == q) = false from beq_eq_false_iff_ne.mpr e]
        exact PySem.W.kat_no (oneLt_ints _ h)
end
/-- tuples of ints, none empty -/
def TupsL (h : Heap) (vs : List Value) : Prop := ∀ v, v ∈ vs → ∃ ns, TupInts h v ns ∧ ns ≠ []
theorem TupsL.keeps {h h' : Heap} {vs : List Value} (x : TupsL h vs) (k : ∀ b o, h.get? b = some o → o.cls = .type "tuple" → h'.get? b = some o) : TupsL h' vs := fun v hv =>
  let ⟨ns, t, r⟩ := x v hv; ⟨ns, t.keeps k, r⟩
theorem firsts_lex {h : Heap} : ∀ vs : List Value, TupsL h vs → ∃ fs, PySem.W.KatTups h vs fs ∧ fs.length = vs.length ∧ ∀ f, f ∈ fs → ∃ n t, f = Value.int n t
  | [], _ => ⟨[], PySem.W.KatTups.nil, rfl, fun f hf => by simp at hf⟩
  | v :: vs, x => by
    obtain ⟨fs, k, hl, hi⟩ := firsts_lex vs fun u hu => x u (List.mem_cons_of_mem _ hu)
    obtain ⟨ns, ⟨a, xs, rfl, ⟨o, ho, hc, n, hdt⟩, i⟩, hn⟩ := x v (List.mem_cons_self ..)
    obtain ⟨y, ys, e⟩ : ∃ y ys, xs.toList = y :: ys := by
      cases q : xs.toList with
      | nil =>
        rw [q] at i
        cases i
        exact absurd rfl hn
      | cons y ys => exact ⟨y, ys, rfl⟩
    obtain ⟨m, t, hy⟩ := i.all y (by rw [e]; exact List.mem_cons_self ..)
    refine ⟨y :: fs, PySem.W.KatTups.cons ho hc hdt ?_ k, by simp [hl], fun f hf => ?_⟩
    · have z := congrArg (fun l : List Value => l[0]?) e
      simpa using z
    · rcases List.mem_cons.mp hf with rfl | hf
      · exact ⟨m, t, hy⟩
      · exact hi f hf
section
variable {prog : Program} {w : World} {A : Around} {E : Value → Shared → Prop} {s : Shared}
theorem kind_lex {vs : List Value} (h2 : 2 ≤ vs.length) (x : TupsL s.heap vs) (r : Value → Int) (hr : ∀ v, v ∈ vs → ∀ u, u ∈ vs → ∀ ns ms, TupInts s.heap v ns → TupInts s.heap u ms → decide (r v < r u) = lxLt ns ms) (Q : SortKind → Shared → Prop)
    (h : ∀ κ, Cmp prog w A s κ (pairsOf vs) r → Q κ s) : wpAny (model prog w) A (keyKind' vs.toArray) Q E s := by
  obtain ⟨fs, k, hl, hi⟩ := firsts_lex vs x
  refine PySem.W.kat_kind (T := Value.type "int") k (by omega) (fun f hf => ?_) rfl (h _ fun p q hp hq Q' E' hQ => ?_)
  · obtain ⟨n, t, rfl⟩ := hi f hf
    exact PySem.W.Looks.of_pure rfl
  · rw [pairsOf_toList] at hp hq
    obtain ⟨ns, tp, _⟩ := x _ (mem_zip_self hp).2
    obtain ⟨ms, tq, _⟩ := x _ (mem_zip_self hq).2
    have hQ' : Q' (lxLt ns ms) s := by
      rw [← hr _ (mem_zip_self hp).2 _ (mem_zip_self hq).2 ns ms tp tq]
      exact hQ
    obtain ⟨a, xs, e1, ⟨o, ho, hc, n, hdt⟩, i⟩ := tp
    obtain ⟨a', ys, e2, ⟨o', ho', hc', n', hdt'⟩, i'⟩ := tq
    rw [e1, e2]
    refine PySem.W.kat_lt ho hdt ho' hdt' ?_
    have l1 := i.length
    have l2 := i'.length
    rw [Array.length_toList] at l1 l2
    rw [l1, l2]
    exact lex_gen 0 i i' hQ'
/-- the sort of a list of tuples of ints -/
theorem sort_lex {a : Addr} {vs : List Value} {n : Nat} {P : PySem.Fin → Shared → Prop} (ho : s.heap.get? a = some (seqObj "list" vs.toArray n)) (h64 : vs.length < 64) (x : TupsL s.heap vs)
    (h : ∀ out : Array Value, out.toList.Perm vs → out.toList.Pairwise (fun u v => lxLt (intsOf s.heap v) (intsOf s.heap u) = false) → P (.done (.ret .none)) { s with heap := sortedHeap s.heap a vs out }) :
    wpAny (model prog w) A (Builtin.«list.sort» ⟨[.ref a], []⟩) P E s := by
  have keep : ∀ b o, s.heap.get? b = some o → o.cls = .type "tuple" → (midHeap s.heap a vs).get? b = some o := fun b o e hc => by
    refine midHeap_old ?_ e
    rintro rfl
    rw [ho] at e
    cases Option.some.inj e
    exact absurd hc (by simp [seqObj])
  have mem : ∀ v, v ∈ vs → intsOf s.heap v ∈ vs.map (intsOf s.heap) := fun v hv => List.mem_map.mpr ⟨v, hv, rfl⟩
  refine SK.plain_sort (r := fun v => lrk (vs.map (intsOf s.heap)) (intsOf s.heap v)) ho h64 (fun h2 Q hQ => ?_) fun ps out h1 h2 h3 => ?_
  · refine kind_lex (s := { s with heap := midHeap s.heap a vs }) h2 (x.keeps keep) _ (fun v hv u hu ns ms tv tu => ?_) Q hQ
    obtain ⟨ns0, t0, _⟩ := x v hv
    obtain ⟨ms0, t1, _⟩ := x u hu
    have e : ns = ns0 := tv.ints.symm.trans (t0.keeps keep).ints
    have e' : ms = ms0 := tu.ints.symm.trans (t1.keeps keep).ints
    rw [e, e', ← t0.ints, ← t1.ints]
    exact lrk_lt (mem v hv) (mem u hu)
  · obtain ⟨p, o⟩ := out_rank (r := fun v => lrk (vs.map (intsOf s.heap)) (intsOf s.heap v)) h1 h2 h3
    refine h out p (List.Pairwise.imp_of_mem (fun {u v} hu hv hle => ?_) o)
    rw [← lrk_lt (mem v (p.mem_iff.mp hv)) (mem u (p.mem_iff.mp hu)), decide_eq_false_iff_not]
    omega
theorem call_sort_lex {a : Addr} {vs : List Value} {n : Nat} {Q : Value → Shared → Prop} (ho : s.heap.get? a = some (seqObj "list" vs.toArray n)) (h64 : vs.length < 64) (x : TupsL s.heap vs)
    (h : ∀ out : Array Value, out.toList.Perm vs → out.toList.Pairwise (fun u v => lxLt (intsOf s.heap v) (intsOf s.heap u) = false) → Q .none { s with heap := sortedHeap s.heap a vs out }) :
    wpAny (model prog w) A (call (.builtin "list.sort") [.ref a]) Q E s :=
  wpAny_call_entry slot_list_sort ⟨_, ho, rfl⟩ entry_list_sort (sort_lex ho h64 x fun out h1 h2 => ⟨_, rfl, h out h1 h2⟩) (args_list_sort _)
theorem sorted_lex {l : Addr} {vs : List Value} {Q : Value → Shared → Prop} (hl : s.heap.IsList l vs.toArray) (h64 : vs.length < 64) (x : TupsL s.heap vs)
    (h : ∀ out : Array Value, out.toList.Perm vs → out.toList.Pairwise (fun u v => lxLt (intsOf s.heap v) (intsOf s.heap u) = false) → Q (.ref (s.heap.objs.size + 1)) { s with heap := sortedAll s.heap vs out }) :
    wpAny (model prog w) A (call (.builtin "sorted") [.ref l]) Q E s := by
  refine Calls.call_function_entry kind_sorted plain_sorted entry_sorted (args_sorted1 _) ?_
  unfold Builtin.«sorted»
  refine wpAny_bind (m := checkCount "sorted" 1 1 _) (wpAny_pure ?_)
  refine wpAny_bind (collect_list hl ?_ (by rw [sizeLine_eq]; omega))
  refine wpAny_bind (wpAny_newList ?_ (by rw [sizeLine_eq]; omega))
  have hsz : ((s.heap.push (seqObj "list" #[] 0)).update s.heap.objs.size (Obj.mapSeq (· ++ vs.toArray))).objs.size = s.heap.objs.size + 1 := by rw [Heap.size_update, size_push']
  have hoL : (((s.heap.push (seqObj "list" #[] 0)).update s.heap.objs.size (Obj.mapSeq (· ++ vs.toArray))).push (seqObj "list" vs.toArray 0)).get? (s.heap.objs.size + 1) = some (seqObj "list" vs.toArray 0) := by rw [← hsz]; exact Heap.get?_push_size _ rfl
  have keep : ∀ b o, s.heap.get? b = some o → o.cls = .type "tuple" → (((s.heap.push (seqObj "list" #[] 0)).update s.heap.objs.size (Obj.mapSeq (· ++ vs.toArray))).push (seqObj "list" vs.toArray 0)).get? b = some o := fun b o q _ => by
    have hlt : b < s.heap.objs.size := Heap.lt_size q
    rw [Heap.get?_push_ne _ _ _ (by rw [hsz]; exact Nat.ne_of_lt (Nat.lt_succ_of_lt hlt)), Heap.get?_update_ne _ _ _ _ (Nat.ne_of_lt hlt), Heap.get?_push_ne _ _ _ (Nat.ne_of_lt hlt)]
    exact q
  show wpAny _ _ _ _ _ { s with heap := ((s.heap.push (seqObj "list" #[] 0)).update s.heap.objs.size (Obj.mapSeq (· ++ vs.toArray))).push (seqObj "list" vs.toArray 0) }
  rw [hsz]
  refine wpAny_bind (wpAny_holding (wpAny_call_entry slot_list_sort ⟨_, hoL, rfl⟩ entry_list_sort (sort_lex hoL h64 (x.keeps keep) fun out a1 a2 => ⟨_, rfl, ?_⟩) (args_list_sort _)))
  refine wpAny_pure ⟨_, rfl, h out a1 (List.Pairwise.imp_of_mem (fun {u v} hu hv hlt => ?_) a2)⟩
  have one : ∀ v, v ∈ out.toList → intsOf (((s.heap.push (seqObj "list" #[] 0)).update s.heap.objs.size (Obj.mapSeq (· ++ vs.toArray))).push (seqObj "list" vs.toArray 0)) v = intsOf s.heap v := fun v hv => by
    obtain ⟨ns, t, _⟩ := x v (a1.mem_iff.mp hv)
    rw [(t.keeps keep).ints, t.ints]
  rw [← one v hv, ← one u hu]
  exact hlt
end
end TS
end T_SimS

section T_SimT
set_option Elab.async false
set_option linter.all false
set_option maxRecDepth 100000
/-! SimT: sorted(set(list)), sorted(list) of tuples; tuple(range): rules and closures. -/
namespace L2
open PySem PySem.Spec PyProof.Rows Sim
section
variable {P : Program} {w : World} {A : Around} {E : Value → Shared → Prop} {s : Shared}
abbrev freshSet (w : World) : Obj := { cls := .type "set", dict := none, data := .set #[] 0 (.fresh 0 0 (!w.params.followText "set-order")) }
set_option maxHeartbeats 3200000 in
/-- set(xs), xs a list of ints: as the walk over a set wants it -/
theorem call_set_lstI {l : Addr} {items : Array Value} (ns : List Int) {Q : Value → Shared → Prop} (hh : A.handled = none) (hl : s.heap.IsList l items) (hit : IntsAre items.toList ns) (hb : ns.length + 1 < scanBound)
    (h : ∀ (h' : Heap) (tk c : Nat), SetR w h' s.heap.objs.size (fun j => decide (j ∈ ns)) c → c ≤ ns.length → (∀ b o, s.heap.get? b = some o → h'.get? b = some o) → Q (.ref s.heap.objs.size) { s with heap := h', toks := tk }) :
    wpAny (model P w) A (call (.type "set") [.ref l]) Q E s := by
  have hisz : items.size = ns.length := by
    have q := IntsAre.length hit
    rwa [Array.length_toList] at q
  obtain ⟨c, tl, hmro⟩ := F.called_set.mro
  have hmade := F.called_set.made
  have hsub := F.called_set.sub
  refine wpAny_call (codeAny_of_tree ?_)
  show wpAny _ _ (callAny (.type "set") _) _ _ _
  refine wpAny_pure ⟨Code.quiet_builtin _ (by decide +kernel), codeAny_builtin F.entry_type_call ?_⟩
  rw [Around.under_plain (weight_type_call_type "set" [.ref l] []) rfl]
  have h1 := F.called_set.notType
  have h2 := F.called_set.canCreate
  have hct := F.typeCall_set_1 (.ref l)
  repeat (any_goals (first | assumption | wp_step))
  refine codeAny_mono (code_set_led1 (.ref l) (E := E) (Q₁ := fun obj s₁ => obj = .ref s.heap.objs.size ∧ s₁ = { s with heap := s.heap.push (freshSet w) }) ⟨rfl, rfl⟩) fun r s₁ hr => ?_
  cases r with
  | error e => exact hr
  | ok fl =>
    cases fl with
    | ret obj =>
      obtain ⟨rfl, rfl⟩ := hr
      have hS : (s.heap.push (freshSet w)).get? s.heap.objs.size = some (freshSet w) := Heap.get?_push_size _ rfl
      have hT : Shared.TypeIs { s with heap := s.heap.push (freshSet w) } (.ref s.heap.objs.size) "set" := ⟨_, hS, rfl⟩
      have hli := F.called_set.init.lookup
      have hbi := F.called_set.init.bind (.ref s.heap.objs.size)
      repeat (any_goals (first | assumption | wp_step))
      refine codeAny_mono (codeAny_call_builtin (R := wants (fun r s₂ => r = .none ∧ ∃ h' tk c, s₂ = { s with heap := h', toks := tk } ∧ SetR w h' s.heap.objs.size (fun j => decide (j ∈ ns)) c ∧ c ≤ ns.length ∧
          (∀ b o, s.heap.get? b = some o → h'.get? b = some o)) E) F.called_set.init.plain F.entry_set_init (check_set_init_1 hT ?_)) fun r₂ s₂ hr₂ => ?_
      · obtain ⟨ol, hol, hcl, nl, hdl⟩ := hl
        obtain ⟨ocls, odict, odata, oslots⟩ := ol
        simp only at hcl hdl
        subst hcl; subst hdl
        have hol' : (s.heap.push (freshSet w)).get? l = some { cls := .type "list", dict := odict, data := .seq items nl, slots := oslots } := Heap.get?_push_of_some _ hol
        have hsls := F.sub_list_set
        have hslf := F.sub_list_frozenset
        have hne : (Value.type "list" == Value.type "dict") = false := by decide
        have hl1 : (s.heap.push (freshSet w)).IsList l items := ⟨_, hol', rfl, nl, rfl⟩
        unfold Builtin.«set.__init__» noKeywords Builtin.Frozenset.updateFrom
        generalize hPI : pyIter = PI
        wp_walk
        subst hPI
        refine wpAny_pyIter_list hl1 ?_
        refine wpAny_bind (wpAny_runValue ?_)
        have hlS : l < s.heap.objs.size := Heap.lt_size hol
        have hh3 : A.in1.in1.in1.handled = none := by simp [hh]
        have hneI : l ≠ (s.heap.push (freshSet w)).objs.size := by
          rw [Heap.size_push]; exact Nat.ne_of_lt (Nat.lt_succ_of_lt hlS)
        have hSf : s.heap.objs.size ∉ [(s.heap.push (freshSet w)).objs.size, l] := by
          rw [Heap.size_push]; simp only [List.mem_cons, List.mem_singleton, List.not_mem_nil, or_false, not_or]
          exact ⟨Nat.ne_of_lt (Nat.lt_succ_self _), Nat.ne_of_gt hlS⟩
        have hval : ∀ (i : Nat) (v : Value), items[i]? = some v → ∃ k t, ns[i]? = some k ∧ v = .int k t := fun i v hv => by
          have hi : i < ns.length := by rw [← hisz]; exact (Array.getElem?_eq_some_iff.mp hv).1
          obtain ⟨t, e⟩ := PyProof.Rows.IntsAre.int_at hit i v (by rw [Array.getElem?_toList]; exact hv)
          refine ⟨ns[i], t, List.getElem?_eq_getElem hi, ?_⟩
          rw [e, List.getD_eq_getElem?_getD, List.getElem?_eq_getElem hi] <;> rfl
        refine set_update_ints ((Walks.list hh3 _ l hneI items).toS) s.heap.objs.size
          hSf ns hisz hb hval (items.size - 0) 0 _ (by omega) (Nat.zero_le _)
          ⟨⟨_, Heap.get?_push_size _ rfl, rfl, rfl⟩, (hl1.push _)⟩ ?hS0 ?hR
        case hS0 =>
          have hget : ((s.heap.push (freshSet w)).push { cls := .type "list_iterator", data := .fields #[.ref l, .int 0 0] }).get? s.heap.objs.size = some (freshSet w) := Heap.get?_push_of_some _ hS
          exact ⟨0, Nat.le_refl 0, setR_new_at hget⟩
        case hR =>
          intro s' c' hm hc' hS'
          obtain ⟨h', g2, d', tk', os'⟩ := s'
          have eg : g2 = s.gens := hm.gens
          have ed : d' = s.drawn := hm.drawn
          have eo : os' = s.os := hm.os
          subst eg; subst ed; subst eo
          show wpAny _ _ _ _ _ _
          refine wpAny_pure ?_
          show wpAny _ _ (ret Value.none) _ _ _
          rw [hisz] at hc'
          refine wpAny_pure ⟨rfl, h', tk', c', rfl, hS', hc', fun b o e => ?_⟩
          have hb0 : b < s.heap.objs.size := Heap.lt_size e
          have hb1 : b ≠ s.heap.objs.size := Nat.ne_of_lt hb0
          have hb2 : b ≠ (s.heap.push (freshSet w)).objs.size := by
            rw [Heap.size_push]; exact Nat.ne_of_lt (Nat.lt_succ_of_lt hb0)
          exact hm.heap b o (by simp only [List.mem_cons, List.mem_singleton, List.not_mem_nil, or_false, not_or]; exact ⟨hb1, hb2⟩) (Heap.get?_push_of_some _ (Heap.get?_push_of_some _ e))
      · cases r₂ with
        | error e => exact hr₂
        | ok fl₂ =>
          cases fl₂ with
          | ret r =>
            obtain ⟨rfl, h', tk, c', rfl, hS', hc', hk'⟩ := hr₂
            repeat (any_goals (first | assumption | wp_step))
            exact h _ _ _ hS' hc' hk'
          | _ => exact hr₂.elim
    | _ => exact hr.elim
/-- sorted(set) of tuples of ints, of any lengths -/
theorem sorted_setL {a : Addr} {L : List (Addr × List Int)} {es : Array (Int × Value)} {ep : Nat} {t : SetTable} {Q : Value → Shared → Prop} (R : SetTR P w s.heap a L es ep t) (hh : A.handled = none) (hne : ∀ p ∈ L, p.2 ≠ [])
    (hQ : ∀ s' p (out : Array Value) (c : Nat) (L' : List (Addr × List Int)), (∀ b o, s.heap.get? b = some o → s'.heap.get? b = some o) → s'.gens = s.gens → s'.os = s.os → s.heap.objs.size ≤ p →
      s'.heap.get? p = some (seqObj "list" out c) → out.toList = L'.map (fun q => Value.ref q.1) → L'.Perm L → L'.Pairwise (fun q r => lxLt r.2 q.2 = false) → Q (.ref p) s') :
    wpAny (model P w) A (call (.builtin "sorted") [.ref a]) Q E s := by
  obtain ⟨o, ho, hex, hd⟩ := R.ob
  have hfew := R.few
  have hsz := R.size
  refine Calls.call_function_entry kind_sorted plain_sorted entry_sorted (args_sorted1 _) ?_
  unfold Builtin.«sorted»
  refine wpAny_bind (m := checkCount "sorted" 1 1 _) (wpAny_pure ?_)
  refine wpAny_bind (collect_set (A := A.in1) hh ⟨o, ho, hex.1, hd⟩ R.fits (by unfold scanBound; omega) R.tab.ris R.led fun s1 vs k1 hz g1 o1 pm => ?_)
  have hes : es.toList.map (·.2) = L.map fun q => Value.ref q.1 := by
    rw [R.rows]
    unfold rowsOf
    rw [List.map_map]
    rfl
  rw [hes] at pm
  have hvl : vs.length < 64 := by rw [pm.length_eq, List.length_map]; exact hfew
  refine wpAny_bind (wpAny_newList ?_ (by rw [sizeLine_eq]; omega))
  have hoL : (s1.heap.push (seqObj "list" vs.toArray 0)).get? s1.heap.objs.size = some (seqObj "list" vs.toArray 0) := Heap.get?_push_size _ rfl
  have tk : ∀ q ∈ L, TS.TupInts (s1.heap.push (seqObj "list" vs.toArray 0)) (.ref q.1) q.2 := fun q hq => tupInts_of (P := P) (w := w) (isT_keep (R.tup q hq) fun b u e => Heap.get?_push_of_some _ (k1 b u e))
  have x : TS.TupsL (s1.heap.push (seqObj "list" vs.toArray 0)) vs := fun v hv => by
    obtain ⟨q, hq, e⟩ := List.mem_map.mp (pm.mem_iff.mp hv)
    rw [← e]
    exact ⟨q.2, tk q hq, hne q hq⟩
  refine wpAny_bind (wpAny_holding (TS.call_sort_lex (s := { s1 with heap := s1.heap.push (seqObj "list" vs.toArray 0) }) hoL hvl x fun out a1 a2 => ?_))
  obtain ⟨c, hc⟩ := sortedHeap_at (vs := vs) (out := out) hoL
  obtain ⟨L', pL, e'⟩ := lift_perm_to (fun q : Addr × List Int => Value.ref q.1) (a1.trans pm) L rfl
  refine wpAny_pure ⟨_, rfl, hQ _ s1.heap.objs.size out c L' (fun b u e => ?_) g1 o1 hz hc e' pL ?_⟩
  · have q := k1 b u e
    have hlt := Heap.lt_size q
    show (sortedHeap (s1.heap.push (seqObj "list" vs.toArray 0)) s1.heap.objs.size vs out).get? b = some u
    rw [sortedHeap_old (Nat.ne_of_lt hlt) (by rw [size_push']; exact Nat.lt_succ_of_lt hlt)]
    exact Heap.get?_push_of_some _ q
  · rw [e'] at a2
    refine List.Pairwise.imp_of_mem (fun {q r} hq hr hle => ?_) (List.pairwise_map.mp a2)
    rw [← (tk q (pL.mem_iff.mp hq)).ints, ← (tk r (pL.mem_iff.mp hr)).ints]
    exact hle
end
end L2
namespace Sim
open PySem PySem.Spec L2
open PyProof.Rows hiding St
section
variable {X : Cx}
/-- sorted(xs), xs a list of tuples of ints -/
def rSortL (K : PySem.W.Frag) : List V → Hp → VK → Prop := fun vs H Q => ∃ (a : Addr) (L : List (Addr × List Int)), vs = [V.ref a] ∧ SqL K H a (L.map fun p => V.ref p.1) ∧ L.length < 64 ∧ (∀ p ∈ L, SqT K H p.1 (p.2.map V.int) ∧ p.2 ≠ []) ∧
  ∀ (L' : List (Addr × List Int)) (p : Addr), L'.Perm L → L'.Pairwise (fun q r => lxLt r.2 q.2 = false) → H p = none → Q (.ref p) (upd H p (.lst (L'.map fun q => V.ref q.1)))
theorem cr_sortL : CallR X (.builtin "sorted") (rSortL X.K) := by
  intro pins s σ H vs us Q I r h
  obtain ⟨a, L, rfl, hs, h64, hx, q⟩ := h
  obtain ⟨its, rv, hl, hz⟩ := I.list hs
  rw [Vals.ref1 r]
  have eits := refs_of_vals rv
  have tk : ∀ p ∈ L, TS.TupInts s.heap (.ref p.1) p.2 := fun p hp => tupI_raw I (hx p hp).1
  refine TS.sorted_lex hl.isList (by rw [← rv.length, List.length_map]; exact h64) (fun v hv => ?_) fun out h1 h2 => ?_
  · rw [eits] at hv
    obtain ⟨p, hp, e⟩ := List.mem_map.mp hv
    rw [← e]
    exact ⟨p.2, tk p hp, (hx p hp).2⟩
  · obtain ⟨ep, he'⟩ := PyProof.Rows.sortedAll_at s.heap its out
    obtain ⟨L', pL, e'⟩ := lift_perm_to (fun q : Addr × List Int => Value.ref q.1) h1 L eits
    have hlen : (L'.map fun q => V.ref q.1).length ≤ sizeLine := by rw [List.length_map, pL.length_eq, sizeLine_eq]; omega
    have hv : Vals (L'.map fun q => V.ref q.1) out.toList := by rw [e']; exact vals_of_refs L'
    refine ⟨.ref _, upd H (s.heap.objs.size + 1) (.lst (L'.map fun q => V.ref q.1)), I.laid (t' := s.toks) (fun _ _ => PyProof.Rows.sortedAll_old) (Nat.le_succ _) ⟨hlen, out.toList, ep, hv, he'⟩, rfl, q L' _ pL ?_ (I.hok.fresh (Nat.le_succ _))⟩
    rw [e'] at h2
    refine List.Pairwise.imp_of_mem (fun {q r} hq hr hle => ?_) (List.pairwise_map.mp h2)
    rw [← (tk q (pL.mem_iff.mp hq)).ints, ← (tk r (pL.mem_iff.mp hr)).ints]
    exact hle
/-- sorted(set(xs)) of ints -/
def tSortSetI (K : PySem.W.Frag) (te : TE) : TE := fun σ H Q => te σ H fun x H1 => ∃ (l : Addr) (ns : List Int), x = V.ref l ∧ SqL K H1 l (ns.map V.int) ∧ ns.length < 64 ∧
  ∀ (ns' : List Int) (p : Addr), ns'.Pairwise (· < ·) → (∀ k, k ∈ ns' ↔ k ∈ ns) → H1 p = none → Q (.ref p) (upd H1 p (.lst (ns'.map V.int)))
/-- sorted(set(xs)) of tuples of ints -/
def tSortSetT (K : PySem.W.Frag) (te : TE) : TE := fun σ H Q => te σ H fun x H1 => ∃ (l : Addr) (ks : List (Addr × List Int)), x = V.ref l ∧ SqL K H1 l (ks.map fun p => V.ref p.1) ∧ (∀ p ∈ ks, SqT K H1 p.1 (p.2.map V.int) ∧ p.2 ≠ []) ∧ ks.length < 64 ∧
  ∀ (L : List (Addr × List Int)) (p : Addr), (∀ q ∈ L, q ∈ ks) → (∀ q ∈ ks, q.2 ∈ L.map (·.2)) → (L.map (·.2)).Nodup → L.Pairwise (fun q r => lxLt r.2 q.2 = false) → H1 p = none → Q (.ref p) (upd H1 p (.lst (L.map fun q => V.ref q.1)))
variable {a : Expr} {ta te : TE} {p p2 q pos : Pos}
theorem pe_sortSetI (hc : X.calm = true) (hg : Gl X "sorted") (hm : X.mg "sorted" = none) (hg2 : Gl X "set") (hm2 : X.mg "set" = none) (ha : PE X a ta)
    (na : starEach [a] X.env = (false, eval a X.env) :: starEach [] X.env := by rfl) : PE X (.Call (.Name "sorted" p) [.Call (.Name "set" p2) [a] [] q] [] pos) (tSortSetI X.K ta) := by
  refine ⟨fun pins s σ H Q I h => ?_⟩
  refine Call_ (ld_blt I hg hm (by decide +kernel : bootBuiltins "sorted" = some (.builtin "sorted")) ?_)
  refine PyProof.Rows.callWith_builtin1 (PyProof.Rows.args_cons ?_ rfl) rfl rfl
  refine Call_ (ld_blt I hg2 hm2 PyProof.Rows.boot_set ?_)
  refine PyProof.Rows.callWith_type1 (PyProof.Rows.args_cons (thn (ha.run pins s σ H _ I h) fun v s1 ⟨x, H1, I1, r1, q1⟩ => PyProof.Rows.args_nil ?_) na) na rfl
  obtain ⟨l, ns, rfl, hq, h1, q1⟩ := q1
  cases r1
  obtain ⟨its, r, pl, hz⟩ := I1.list hq
  refine call_set_lstI ns (I1.ok.hd hc) pl.isList (by simpa using r.ints) (by unfold scanBound; omega) fun h' tk c hS hcl hk => ?_
  have I2 : Inv X pins σ H1 { s1 with heap := h', toks := tk } := I1.kept hk
  refine PyProof.Rows.args_nil ?_
  refine sorted_set (s := { s1 with heap := h', toks := tk }) hS (I1.ok.hd hc) (by omega) fun s' p' out c' ns' k g o hp hgt hI hpw hmem hlen => ?_
  have hn : H1 p' = none := I2.hok.fresh hp
  have hle : (ns'.map V.int).length ≤ sizeLine := by rw [List.length_map, sizeLine_eq]; omega
  have J : Inv X pins σ (upd H1 p' (.lst (ns'.map V.int))) { ({ s1 with heap := h', toks := tk } : Shared) with heap := s'.heap, gens := s'.gens, drawn := s'.drawn, toks := s'.toks } :=
    I2.call (ch := []) (Un.laid k hp hn) (I2.hok.laid k hp ⟨hle, out.toList, c', vals_of_ints hI, hgt⟩) (by rw [g]; exact I2.bare) (fun _ z => nomatch z)
  have e : s' = { ({ s1 with heap := h', toks := tk } : Shared) with heap := s'.heap, gens := s'.gens, drawn := s'.drawn, toks := s'.toks } := by
    cases s'
    cases s1
    cases o
    rfl
  rw [e]
  exact ⟨.ref p', _, J, rfl, q1 ns' p' hpw (fun k => by rw [hmem k, decide_eq_true_eq]) hn⟩
theorem pe_sortSetT (hc : X.calm = true) (hu : X.A.units + 64 < cLine) (hg : Gl X "sorted") (hm : X.mg "sorted" = none) (hg2 : Gl X "set") (hm2 : X.mg "set" = none) (ha : PE X a ta)
    (na : starEach [a] X.env = (false, eval a X.env) :: starEach [] X.env := by rfl) : PE X (.Call (.Name "sorted" p) [.Call (.Name "set" p2) [a] [] q] [] pos) (tSortSetT X.K ta) := by
  refine ⟨fun pins s σ H Q I h => ?_⟩
  refine Call_ (ld_blt I hg hm (by decide +kernel : bootBuiltins "sorted" = some (.builtin "sorted")) ?_)
  refine PyProof.Rows.callWith_builtin1 (PyProof.Rows.args_cons ?_ rfl) rfl rfl
  refine Call_ (ld_blt I hg2 hm2 PyProof.Rows.boot_set ?_)
  refine PyProof.Rows.callWith_type1 (PyProof.Rows.args_cons (thn (ha.run pins s σ H _ I h) fun v s1 ⟨x, H1, I1, r1, q1⟩ => PyProof.Rows.args_nil ?_) na) na rfl
  obtain ⟨l, ks, rfl, hq, hks, h1, q1⟩ := q1
  cases r1
  obtain ⟨its, r, pl, hz⟩ := I1.list hq
  refine call_set_tups (P := X.prog) (w := X.w) ks (I1.ok.hd hc) pl.isList (by simpa using refs_of_vals r) (fun p hp => I1.isT (hks p hp).1) h1 (by omega) fun h' tk L es ep t R g0 hk => ?_
  have I2 : Inv X pins σ H1 { s1 with heap := h', toks := tk } := I1.kept hk
  have hsub : ∀ q ∈ L, q ∈ ks := fun q hq => List.mem_of_mem_take (g0.sub q hq)
  refine PyProof.Rows.args_nil ?_
  refine sorted_setL (s := { s1 with heap := h', toks := tk }) R (I1.ok.hd hc) (fun q hq => (hks q (hsub q hq)).2) fun s' p' out c' L' k g o hp hgt hout pm hpw => ?_
  have hn : H1 p' = none := I2.hok.fresh hp
  have hfew : L'.length < 64 := by rw [pm.length_eq]; exact R.few
  have hle : (L'.map fun q => V.ref q.1).length ≤ sizeLine := by rw [List.length_map, sizeLine_eq]; omega
  have hv : Vals (L'.map fun q => V.ref q.1) out.toList := by rw [hout]; exact vals_of_refs L'
  have J : Inv X pins σ (upd H1 p' (.lst (L'.map fun q => V.ref q.1))) { ({ s1 with heap := h', toks := tk } : Shared) with heap := s'.heap, gens := s'.gens, drawn := s'.drawn, toks := s'.toks } :=
    I2.call (ch := []) (Un.laid k hp hn) (I2.hok.laid k hp ⟨hle, out.toList, c', hv, hgt⟩) (by rw [g]; exact I2.bare) (fun _ z => nomatch z)
  have e : s' = { ({ s1 with heap := h', toks := tk } : Shared) with heap := s'.heap, gens := s'.gens, drawn := s'.drawn, toks := s'.toks } := by
    cases s'
    cases s1
    cases o
    rfl
  rw [e]
  refine ⟨.ref p', _, J, rfl, q1 L' p' (fun q hq => hsub q (pm.mem_iff.mp hq)) (fun q hq => ?_) ((pm.map (·.2)).nodup_iff.mpr R.nd) hpw hn⟩
  have := g0.all q (by rw [List.take_length]; exact hq)
  exact (pm.map (·.2)).mem_iff.mpr this
end
end Sim
end T_SimT

section T_SimU
set_option Elab.async false
set_option linter.all false
set_option maxRecDepth 100000
/-! SimU: sorted(list of tuples), sorted(set(..)), tuple(range): the closures. -/
namespace Sim
open PySem PySem.Spec L2
open PyProof.Rows hiding St

def allT : List Dt → Option (List (List Int))
  | [] => some []
  | .tuple xs :: ds => match allI xs with
    | some ns => match allT ds with
      | some nss => some (ns :: nss)
      | none => none
    | none => none
  | _ :: _ => none
def encL (ns : List Int) : Dt := .tuple (ns.map .int)
theorem allT_map : ∀ nss : List (List Int), allT (nss.map encL) = some nss
  | [] => rfl
  | ns :: nss => by
    rw [List.map_cons]
    unfold encL allT
    rw [show allI (ns.map PyData.int) = some ns from allI_map ns]
    have := allT_map nss
    unfold encL at this
    rw [this]
def dd {α : Type} [DecidableEq α] : List α → List α
  | [] => []
  | x :: xs => if x ∈ xs then dd xs else x :: dd xs
theorem mem_dd {α : Type} [DecidableEq α] {y : α} : ∀ {xs : List α}, y ∈ dd xs ↔ y ∈ xs
  | [] => Iff.rfl
  | x :: xs => by
    unfold dd
    split
    · rename_i h
      rw [mem_dd, List.mem_cons]
      exact ⟨.inr, fun z => z.elim (fun e => e ▸ h) id⟩
    · rw [List.mem_cons, List.mem_cons, mem_dd]
theorem nodup_dd {α : Type} [DecidableEq α] : ∀ xs : List α, (dd xs).Nodup
  | [] => List.nodup_nil
  | x :: xs => by
    unfold dd
    split
    · exact nodup_dd xs
    · rename_i h
      exact List.nodup_cons.mpr ⟨fun z => h (mem_dd.mp z), nodup_dd xs⟩
def tsort (nss : List (List Int)) : List (List Int) := nss.mergeSort fun a b => !lxLt b a
def tset (nss : List (List Int)) : List (List Int) := tsort (dd nss)
def iset (ns : List Int) : List Int := isort (dd ns)
theorem tsort_perm (nss : List (List Int)) : (tsort nss).Perm nss := List.mergeSort_perm _ _
theorem tsort_sorted (nss : List (List Int)) : (tsort nss).Pairwise fun a b => lxLt b a = false := by
  have h := List.pairwise_mergeSort (le := fun a b : List Int => !lxLt b a) (fun a b c h1 h2 => by
    simp only [Bool.not_eq_true'] at *
    cases e : lxLt c a with
    | false => rfl
    | true =>
      cases e2 : lxLt a b with
      | true => rw [lxLt_trans e e2] at h2; cases h2
      | false =>
        rw [lxLt_tri e2 h1] at e
        rw [e] at h2
        cases h2) (fun a b => by
    cases e : lxLt b a with
    | false => simp
    | true =>
      cases e2 : lxLt a b with
      | false => simp
      | true => have := lxLt_trans e e2; rw [lxLt_irr] at this; cases this) nss
  exact h.imp fun h => by simpa using h
theorem lex_unique : ∀ {a b : List (List Int)}, a.Perm b → a.Pairwise (fun x y => lxLt y x = false) → b.Pairwise (fun x y => lxLt y x = false) → a = b
  | [], b, p, _, _ => List.Perm.nil_eq p
  | x :: a, [], p, _, _ => absurd p.length_eq (by simp)
  | x :: a, y :: b, p, ha, hb => by
    have h1 : lxLt x y = false := by
      have : x ∈ y :: b := p.subset List.mem_cons_self
      rcases List.mem_cons.mp this with e | h
      · rw [e, lxLt_irr]
      · exact (List.pairwise_cons.mp hb).1 x h
    have h2 : lxLt y x = false := by
      have : y ∈ x :: a := p.symm.subset List.mem_cons_self
      rcases List.mem_cons.mp this with e | h
      · rw [e, lxLt_irr]
      · exact (List.pairwise_cons.mp ha).1 y h
    have e := lxLt_tri h1 h2
    subst e
    rw [lex_unique (List.perm_cons _ |>.mp p) (List.pairwise_cons.mp ha).2 (List.pairwise_cons.mp hb).2]
theorem iset_of {ns ns' : List Int} (h1 : ns'.Pairwise (· < ·)) (h2 : ∀ k, k ∈ ns' ↔ k ∈ ns) : ns' = iset ns := by
  refine sorted_unique (((List.perm_ext_iff_of_nodup (h1.imp fun h => by omega) (nodup_dd ns)).mpr fun k => by rw [h2, mem_dd]).trans (isort_perm _).symm) (h1.imp fun h => by omega) (isort_sorted _)
theorem tset_of {nss nss' : List (List Int)} (h0 : nss'.Nodup) (h1 : nss'.Pairwise fun a b => lxLt b a = false) (h2 : ∀ k, k ∈ nss' ↔ k ∈ nss) : nss' = tset nss :=
  lex_unique (((List.perm_ext_iff_of_nodup h0 (nodup_dd nss)).mpr fun k => by rw [h2, mem_dd]).trans (tsort_perm _).symm) h1 (tsort_sorted _)

section
variable {K : PySem.W.Frag} {W : Wt} {Δ : List Kd}
theorem rpA_tups {F : Addr → Prop} {H : Hp} : ∀ {xs : List V} {ds : List Dt} {nss : List (List Int)}, RpA K F H xs ds → allT ds = some nss → ∃ ts : List (Addr × List Int), xs = ts.map (fun p => V.ref p.1) ∧ ts.map (·.2) = nss ∧ ∀ p ∈ ts, SqT K H p.1 (p.2.map V.int)
  | _, _, _, .nil, e => by cases e; exact ⟨[], rfl, rfl, fun p hp => nomatch hp⟩
  | _, _, nss, .cons (d := d) (ds := ds) h r, e => by
    cases h with
    | @tup a ys es hs hr =>
      unfold allT at e
      cases ei : allI es with
      | none => rw [ei] at e; cases e
      | some ns =>
        rw [ei] at e
        cases et : allT ds with
        | none => rw [et] at e; cases e
        | some ms =>
          rw [et] at e
          cases e
          obtain ⟨ts, e1, e2, e3⟩ := rpA_tups r et
          refine ⟨(a, ns) :: ts, by rw [List.map_cons, e1], by rw [List.map_cons, e2], fun p hp => ?_⟩
          rcases List.mem_cons.mp hp with z | z
          · rw [z]
            rw [rp_ints hr ei] at hs
            exact hs
          · exact e3 p z
    | _ => cases e
theorem rpA_of_tups {F : Addr → Prop} {H : Hp} : ∀ ts : List (Addr × List Int), (∀ p ∈ ts, SqT K H p.1 (p.2.map V.int)) → RpA K F H (ts.map fun p => V.ref p.1) ((ts.map (·.2)).map encL)
  | [], _ => .nil
  | p :: ts, h => .cons (.tup (h p List.mem_cons_self) (rpA_ints _)) (rpA_of_tups ts fun q hq => h q (List.mem_cons_of_mem _ hq))
/-- none is empty, fewer than 64 -/
def okT0 (nss : List (List Int)) : Bool := nss.all (fun ns => !ns.isEmpty) && decide (nss.length < 64)
def hSortT : Dt → O Dt := fun d => match d with
  | .list xs => match allT xs with
    | some nss => if okT0 nss = true then .ok (.list ((tsort nss).map encL)) else .bad
    | none => .bad
  | _ => .bad
def hSortSetT : Dt → O Dt := fun d => match d with
  | .list xs => match allT xs with
    | some nss => if okT0 nss = true then .ok (.list ((tset nss).map encL)) else .bad
    | none => .bad
  | _ => .bad
def hSortSetI : Dt → O Dt := fun d => match d with
  | .list xs => match allI xs with
    | some ns => if ns.length < 64 then .ok (.list ((iset ns).map .int)) else .bad
    | none => .bad
  | _ => .bad
theorem okT0_ne {nss : List (List Int)} (h : okT0 nss = true) : (∀ ns ∈ nss, ns ≠ []) ∧ nss.length < 64 := by
  unfold okT0 at h
  rw [Bool.and_eq_true, List.all_eq_true, decide_eq_true_eq] at h
  exact ⟨fun ns hn e => by have := h.1 ns hn; rw [e] at this; simp at this, h.2⟩
theorem se_sortT {tA : TA} {gA : List Dt → O (List Dt)} {av fr : Bool} (ha : SA K W Δ tA av fr gA) : SE K W Δ (tCB (rSortL K) tA) (.new .l true) (gCB (one hSortT) gA) := fun f ρ σ H Q R q => by
  refine ha f ρ σ H _ R ?_
  unfold gCB at q
  cases e1 : gA ρ with
  | bad => rw [e1] at q; exact q
  | ex z => rw [e1] at q; exact q
  | ok ds =>
    rw [e1, bnd_ok] at q
    intro vs H1 s1 x1
    rcases one_eq (h := hSortT) (ds := ds) with ⟨d, rfl, e⟩ | e
    · rw [e] at q
      cases x1 with
      | cons x1 xr =>
        cases xr
        cases d with
        | list es =>
          unfold hSortT at q
          simp only at q
          cases ea : allT es with
          | none => rw [ea] at q; exact q.elim
          | some nss =>
            rw [ea] at q
            simp only at q
            by_cases hk : okT0 nss = true
            · rw [if_pos hk] at q
              obtain ⟨a, xs, rfl, hs, r⟩ := x1.sql
              obtain ⟨ts, rfl, rfl, h3⟩ := rpA_tups r ea
              obtain ⟨k1, k2⟩ := okT0_ne hk
              rw [List.length_map] at k2
              refine ⟨a, ts, rfl, hs, k2, fun p hp => ⟨h3 p hp, k1 _ (List.mem_map.mpr ⟨p, hp, rfl⟩)⟩, fun L' l pL pw nl => ?_⟩
              have e2 : tsort (ts.map (·.2)) = L'.map (·.2) := lex_unique ((tsort_perm _).trans (pL.map (·.2)).symm) (tsort_sorted _) (List.pairwise_map.mpr pw)
              rw [e2] at q
              exact q l _ (s1.free nl) (s1.trans (same_upd nl)) ⟨_, _, rfl, upd_same, rpA_of_tups L' fun p hp => sqt_same (same_upd nl) (h3 p (pL.mem_iff.mp hp))⟩
            · rw [if_neg hk] at q
              exact q.elim
        | _ => exact q.elim
    · rw [e] at q
      exact q.elim
theorem se_sortSetI {te : TE} {g : Gd} {av fr : Bool} (ha : SE K W Δ te (.v av fr) g) : SE K W Δ (tSortSetI K te) (.new .l true) (gUn hSortSetI g) := fun f ρ σ H Q R q => by
  refine ha f ρ σ H _ R ?_
  unfold gUn at q
  cases e1 : g ρ with
  | bad => rw [e1] at q; exact q
  | ex z => rw [e1] at q; exact q
  | ok d =>
    rw [e1, bnd_ok] at q
    intro v H1 s1 x1
    cases d with
    | list es =>
      unfold hSortSetI at q
      simp only at q
      cases ea : allI es with
      | none => rw [ea] at q; exact q.elim
      | some ns =>
        rw [ea] at q
        simp only at q
        by_cases hl : ns.length < 64
        · rw [if_pos hl] at q
          obtain ⟨c, xs, rfl, hs, r⟩ := x1.sql
          rw [rp_ints r ea] at hs
          refine ⟨c, ns, rfl, hs, hl, fun ns' p h1 h2 np => ?_⟩
          rw [← iset_of h1 h2] at q
          exact q p _ (s1.free np) (s1.trans (same_upd np)) ⟨_, _, rfl, upd_same, rpA_ints _⟩
        · rw [if_neg hl] at q
          exact q.elim
    | _ => exact q.elim
theorem se_sortSetT {te : TE} {g : Gd} {av fr : Bool} (ha : SE K W Δ te (.v av fr) g) : SE K W Δ (tSortSetT K te) (.new .l true) (gUn hSortSetT g) := fun f ρ σ H Q R q => by
  refine ha f ρ σ H _ R ?_
  unfold gUn at q
  cases e1 : g ρ with
  | bad => rw [e1] at q; exact q
  | ex z => rw [e1] at q; exact q
  | ok d =>
    rw [e1, bnd_ok] at q
    intro v H1 s1 x1
    cases d with
    | list es =>
      unfold hSortSetT at q
      simp only at q
      cases ea : allT es with
      | none => rw [ea] at q; exact q.elim
      | some nss =>
        rw [ea] at q
        simp only at q
        by_cases hk : okT0 nss = true
        · rw [if_pos hk] at q
          obtain ⟨c, xs, rfl, hs, r⟩ := x1.sql
          obtain ⟨ts, rfl, rfl, h3⟩ := rpA_tups r ea
          obtain ⟨k1, k2⟩ := okT0_ne hk
          rw [List.length_map] at k2
          refine ⟨c, ts, rfl, hs, fun p hp => ⟨h3 p hp, k1 _ (List.mem_map.mpr ⟨p, hp, rfl⟩)⟩, k2, fun L p h1 h2 h4 h5 np => ?_⟩
          have e2 : L.map (·.2) = tset (ts.map (·.2)) := tset_of h4 (List.pairwise_map.mpr h5) fun k => ⟨fun hk => by
            obtain ⟨y, hy, e⟩ := List.mem_map.mp hk
            exact List.mem_map.mpr ⟨y, h1 y hy, e⟩, fun hk => by
            obtain ⟨y, hy, e⟩ := List.mem_map.mp hk
            rw [← e]
            exact h2 y hy⟩
          rw [← e2] at q
          exact q p _ (s1.free np) (s1.trans (same_upd np)) ⟨_, _, rfl, upd_same, rpA_of_tups L fun y hy => sqt_same (same_upd np) (h3 y (h1 y hy))⟩
        · rw [if_neg hk] at q
          exact q.elim
    | _ => exact q.elim
/-- tuple(range) -/
def gTpI (gI : List Dt → O (List Dt)) : Gd := fun ρ => bnd (gI ρ) fun ds => if ds.length ≤ 100000 then .ok (.tuple ds) else .bad
theorem se_trng1 {te : TE} {g : Gd} {av fr : Bool} (ha : SE K W Δ te (.v av fr) g) : SE K W Δ (tTupRg (tRg1 te)) (.v true true) (gTpI (gRng1 (gCons g gNil))) := fun f ρ σ H Q R q => by
  refine ha f ρ σ H _ R ?_
  unfold gTpI gRng1 gCons gNil at q
  cases e1 : g ρ with
  | bad => rw [e1] at q; exact q
  | ex z => rw [e1] at q; exact q
  | ok d =>
    rw [e1, bnd_ok, bnd_ok, bnd_ok] at q
    intro v H1 s1 x1
    cases er : rng1 [d] with
    | none => rw [er] at q; exact q.elim
    | some p =>
      rw [er] at q
      unfold rng1 at er
      split at er
      · split at er
        · rename_i hj
          obtain ⟨e, e'⟩ := List.cons.inj ‹[d] = _›
          rename_i j h2
          cases er
          subst e
          rw [rpInt x1]
          simp only [bnd_ok] at q
          by_cases l : (rangeD 0 j).length ≤ 100000
          · rw [if_pos l] at q
            rw [rangeD_len] at l
            refine ⟨j, rfl, ⟨by omega, by omega, hj.1, hj.2, by omega⟩, fun p np => q (.ref p) _ (s1.trans (same_upd np)) (.tup (.inl (.inl upd_same)) ?_)⟩
            exact rpA_mapInt _ _
          · rw [if_neg l] at q
            exact q.elim
        · cases er
      · cases er
variable {X : Cx} {a e : Expr} {es : List Expr} {te : TE} {tA : TA} {g : Gd} {gA : List Dt → O (List Dt)} {av fr : Bool} {p p2 q pos : Pos}
theorem x_sortT {x : Str} (hm : X.mg x = none) (h : AD X K W Δ (e :: es) tA av fr gA) (hv : bootBuiltins x = some (.builtin "sorted") := by decide +kernel) (hg : Gl X x := by rfl) (hn : x ≠ "__name__" := by decide) (hdb : (x == ("__debug__" : Str)) = false := by decide)
    (he : starEach (e :: es) X.env = (false, eval e X.env) :: starEach es X.env := by rfl) (hpl : (backTo pos (starEach es X.env)).any (·.1) = false := by rfl) :
    PD X K W Δ (.Call (.Name x p) (e :: es) [] pos) (tCB (rSortL K) tA) (.new .l true) (gCB (one hSortT) gA) :=
  ⟨pe_callB (by have q := cr_sortL (X := X); rw [h.hK] at q; exact q) hg hm hv h.pa hn hdb he hpl, h.hK, se_sortT h.sa⟩
theorem x_sortSetI (hm : X.mg "sorted" = none) (hm2 : X.mg "set" = none) (h : PD X K W Δ a te (.v av fr) g) (hc : X.calm = true := by rfl) (hg : Gl X "sorted" := by rfl) (hg2 : Gl X "set" := by rfl) (na : starEach [a] X.env = (false, eval a X.env) :: starEach [] X.env := by rfl) :
    PD X K W Δ (.Call (.Name "sorted" p) [.Call (.Name "set" p2) [a] [] q] [] pos) (tSortSetI K te) (.new .l true) (gUn hSortSetI g) := ⟨by have w := pe_sortSetI (X := X) (p := p) (p2 := p2) (q := q) (pos := pos) hc hg hm hg2 hm2 h.pe na; rw [h.hK] at w; exact w, h.hK, se_sortSetI h.se⟩
theorem x_sortSetT {kk : Nat} (hr : Room kk X.A) (hm : X.mg "sorted" = none) (hm2 : X.mg "set" = none) (h : PD X K W Δ a te (.v av fr) g) (hc : X.calm = true := by rfl) (hg : Gl X "sorted" := by rfl) (hg2 : Gl X "set" := by rfl) (na : starEach [a] X.env = (false, eval a X.env) :: starEach [] X.env := by rfl) :
    PD X K W Δ (.Call (.Name "sorted" p) [.Call (.Name "set" p2) [a] [] q] [] pos) (tSortSetT K te) (.new .l true) (gUn hSortSetT g) := ⟨by have w := pe_sortSetT (X := X) (p := p) (p2 := p2) (q := q) (pos := pos) hc hr.units hg hm hg2 hm2 h.pe na; rw [h.hK] at w; exact w, h.hK, se_sortSetT h.se⟩
theorem x_trng1 {pos2 : Pos} (hm : X.mg "tuple" = none) (hm2 : X.mg "range" = none) (h : PD X K W Δ a te (.v av fr) g) (hc : X.calm = true := by rfl) (hg : Gl X "tuple" := by rfl) (hg2 : Gl X "range" := by rfl)
    (na : starEach [a] X.env = (false, eval a X.env) :: starEach [] X.env := by rfl) (na2 : starEach [.Call (.Name "range" p2) [a] [] pos2] X.env = (false, eval (.Call (.Name "range" p2) [a] [] pos2) X.env) :: starEach [] X.env := by rfl) :
    PD X K W Δ (.Call (.Name "tuple" p) [.Call (.Name "range" p2) [a] [] pos2] [] pos) (tTupRg (tRg1 te)) (.v true true) (gTpI (gRng1 (gCons g gNil))) := ⟨pe_tupRg hc hg hm (prg_1 hg2 hm2 h.pe na) na2, h.hK, se_trng1 h.se⟩
end
end Sim
end T_SimU

section T_SimV
set_option Elab.async false
set_option linter.all false
set_option maxRecDepth 100000
/-! SimV: {k: v}, d.get(k), is None, tuple + tuple, sorted(set(tuple of ints)). -/
namespace Sim
open PySem PySem.Spec L2
open PyProof.Rows hiding St

section
variable {K : PySem.W.Frag} {F : Addr → Prop} {H : Hp} {p : Addr} {kvs : List (Key × V)}
mutual
theorem Rp.noD (hp : H p = some (.dK kvs)) : ∀ {v : V} {d : Dt}, Rp K F H v d → Rp K (fun a => F a ∧ a ≠ p) H v d
  | _, _, .non => .non
  | _, _, .bl b => .bl b
  | _, _, .int i => .int i
  | _, _, .str x => .str x
  | _, _, .lst h fa r => .lst h ⟨fa, fun z => by rw [z, hp] at h; cases h⟩ (RpA.noD hp r)
  | _, _, .fz h r => .fz h (RpA.noD hp r)
  | _, _, .tup h r => .tup h (RpA.noD hp r)
theorem RpA.noD (hp : H p = some (.dK kvs)) : ∀ {vs : List V} {ds : List Dt}, RpA K F H vs ds → RpA K (fun a => F a ∧ a ≠ p) H vs ds
  | _, _, .nil => .nil
  | _, _, .cons h r => .cons (Rp.noD hp h) (RpA.noD hp r)
end
end

/-- {k: v} -/
def gDNew1 (gk gv : Gd) : Gd := fun ρ => bnd (gk ρ) fun kd => match keyOf kd with
  | some k => bnd (gv ρ) fun v => .ok (.dict [(keyD k, v)])
  | none => .bad
/-- d.get(k) -/
def gDGetN (i : Nat) (gk : Gd) : Gd := fun ρ => match dAt ρ i with
  | some es => bnd (gk ρ) fun kd => (match keyOf kd with
    | some k => .ok ((dGet es k).getD .none)
    | none => .bad)
  | none => .bad
section
variable {K : PySem.W.Frag} {W : Wt} {Δ : List Kd} {tk tv ti ta tb : TE} {gk gv ga gb g : Gd} {fr fr' av : Bool} {i : Nat}
theorem se_dnew1 (hk : SE K W Δ tk (.v av fr') gk) (hv : SE K W Δ tv (.v true fr) gv) : SE K W Δ (tDisp [(tk, tv)]) (.new .dk fr) (gDNew1 gk gv) := fun f ρ σ H Q R q => by
  intro p np
  have s0 : Same H (upd H p (.dK [])) := same_upd np
  refine hk f ρ σ _ _ (R.mono s0) ?_
  unfold gDNew1 at q
  cases e1 : gk ρ with
  | bad => rw [e1] at q; exact q
  | ex z => rw [e1] at q; exact fun H' s => q H' (s0.trans s)
  | ok kd =>
    rw [e1, bnd_ok] at q
    intro kv H1 s1 xk
    refine hv f ρ σ H1 _ (R.mono (s0.trans s1)) ?_
    cases ek : keyOf kd with
    | none => rw [ek] at q; exact q.elim
    | some k =>
      rw [ek] at q
      dsimp only at q
      cases e2 : gv ρ with
      | bad => rw [e2] at q; exact q
      | ex z => rw [e2] at q; exact fun H' s => q H' ((s0.trans s1).trans s)
      | ok d =>
        rw [e2, bnd_ok] at q
        intro v H2 s2 x2
        have s12 := s1.trans s2
        have hp : H2 p = some (.dK []) := s12 _ _ upd_same
        have sf : Same H (upd H2 p (.dK [(k, v)])) := fun b o e => by
          rw [upd_ne (ne_of_none e np)]
          exact (s0.trans s12) b o e
        refine ⟨hp, [(k, v)], by rw [kV_keyOf xk ek]; rfl, by show 1 ≤ 15; omega, ?_⟩
        have em : mergeK [] [(k, v)] = [(k, v)] := rfl
        rw [em]
        refine q p _ np sf ⟨_, _, rfl, upd_same, .cons ?_ .nil⟩
        exact Rp.updM hp trivial (fun a fa => fa.2) (Rp.noD hp x2)
theorem se_dgetN (hk : Δ[i]? = some (.own .dk fr)) (h : SE K W Δ ti (.v av fr') gk) : SE K W Δ (tDGet1 (tVar i) ti) (.v true fr) (gDGetN i gk) := fun f ρ σ H Q r q => by
  unfold gDGetN at q
  cases ed : dAt ρ i with
  | none => rw [ed] at q; exact q.elim
  | some es =>
    rw [ed] at q
    obtain ⟨p, kvs, g1, g3, g4, g5⟩ := dk_own r hk ed
    refine ⟨_, g1, p, rfl, .inl ⟨kvs, .inl g4⟩, h f ρ σ H _ r ?_⟩
    simp only at q
    cases e2 : gk ρ with
    | bad => rw [e2] at q; exact q
    | ex z => rw [e2] at q; exact q
    | ok kd =>
      rw [e2, bnd_ok] at q
      intro kv H1 s1 xk
      cases ek : keyOf kd with
      | none => rw [ek] at q; exact q.elim
      | some k =>
        rw [ek] at q
        simp only at q
        rw [kV_keyOf xk ek]
        refine ⟨valV kvs k, DGet.k (s1 _ _ g4), ?_⟩
        rcases g5.get k with ⟨e1, e⟩ | ⟨v, d, e1, e, x⟩
        · rw [e1]
          rw [e] at q
          exact q .non H1 s1 .non
        · rw [e1]
          rw [e] at q
          exact q v H1 s1 (x.same s1)
/-- tuple + tuple -/
def hCatT : Dt → Dt → O Dt := fun d e => match d, e with
  | .tuple xs, .tuple ys => if xs.length + ys.length ≤ 100000 then .ok (.tuple (xs ++ ys)) else .bad
  | _, _ => .bad
theorem se_catT (ha : SE K W Δ ta (.v av fr) ga) (hb : SE K W Δ tb (.v av fr) gb) : SE K W Δ (tOp (rCatA K) ta tb) (.v av fr) (gOp hCatT ga gb) := fun f ρ σ H Q R q => by
  refine ha f ρ σ H _ R ?_
  unfold gOp at q
  cases e1 : ga ρ with
  | bad => rw [e1] at q; exact q
  | ex z => rw [e1] at q; exact q
  | ok d =>
    rw [e1, bnd_ok] at q
    intro v H1 s1 x1
    refine hb f ρ σ H1 _ (R.mono s1) ?_
    cases e2 : gb ρ with
    | bad => rw [e2] at q; exact q
    | ex z => rw [e2] at q; exact fun H' s => q H' (s1.trans s)
    | ok d2 =>
      rw [e2, bnd_ok] at q
      intro v2 H2 s2 x2
      have s12 := s1.trans s2
      unfold hCatT at q
      split at q
      · split at q
        · rename_i hz
          obtain ⟨a, xs, rfl, hs, r⟩ := (x1.same s2).sqt
          obtain ⟨b, ys, rfl, hs2, r2⟩ := x2.sqt
          refine ⟨a, b, xs, ys, rfl, rfl, hs, hs2, sz_le (by rw [r.length, r2.length]; exact hz), fun e => ?_, fun _ e => ?_, fun _ _ p np => ?_⟩
          · subst e
            cases r
            exact q _ H2 s12 (.tup hs2 r2)
          · subst e
            cases r2
            refine q _ H2 s12 (.tup hs ?_)
            rw [List.append_nil]
            exact r
          · exact q _ _ (s12.trans (same_upd np)) (.tup (.inl (.inl upd_same)) ((r.append r2).same (same_upd np)))
        · exact q.elim
      · exact q.elim
end
/-- sorted(set(t)), t a tuple of ints -/
def tSortSetU (K : PySem.W.Frag) (te : TE) : TE := fun σ H Q => te σ H fun x H1 => ∃ (l : Addr) (ns : List Int), x = V.ref l ∧ SqT K H1 l (ns.map V.int) ∧ ns.length < 64 ∧
  ∀ (ns' : List Int) (p : Addr), ns'.Pairwise (· < ·) → (∀ k, k ∈ ns' ↔ k ∈ ns) → H1 p = none → Q (.ref p) (upd H1 p (.lst (ns'.map V.int)))
def hSortSetU : Dt → O Dt := fun d => match d with
  | .tuple xs => match allI xs with
    | some ns => if ns.length < 64 then .ok (.list ((iset ns).map .int)) else .bad
    | none => .bad
  | _ => .bad
section
variable {X : Cx} {a : Expr} {ta te : TE} {p p2 q pos : Pos}
theorem pe_sortSetU (hc : X.calm = true) (hg : Gl X "sorted") (hm : X.mg "sorted" = none) (hg2 : Gl X "set") (hm2 : X.mg "set" = none) (ha : PE X a ta)
    (na : starEach [a] X.env = (false, eval a X.env) :: starEach [] X.env := by rfl) : PE X (.Call (.Name "sorted" p) [.Call (.Name "set" p2) [a] [] q] [] pos) (tSortSetU X.K ta) := by
  refine ⟨fun pins s σ H Q I h => ?_⟩
  refine Call_ (ld_blt I hg hm (by decide +kernel : bootBuiltins "sorted" = some (.builtin "sorted")) ?_)
  refine PyProof.Rows.callWith_builtin1 (PyProof.Rows.args_cons ?_ rfl) rfl rfl
  refine Call_ (ld_blt I hg2 hm2 PyProof.Rows.boot_set ?_)
  refine PyProof.Rows.callWith_type1 (PyProof.Rows.args_cons (thn (ha.run pins s σ H _ I h) fun v s1 ⟨x, H1, I1, r1, q1⟩ => PyProof.Rows.args_nil ?_) na) na rfl
  obtain ⟨l, ns, rfl, hq, h1, q1⟩ := q1
  cases r1
  obtain ⟨its, r, pl, hz⟩ := I1.tuple hq
  refine call_set_tupI ns (I1.ok.hd hc) pl (by simpa using r.ints) (by unfold scanBound; omega) fun h' tk c hS hcl hk => ?_
  have I2 : Inv X pins σ H1 { s1 with heap := h', toks := tk } := I1.kept hk
  refine PyProof.Rows.args_nil ?_
  refine sorted_set (s := { s1 with heap := h', toks := tk }) hS (I1.ok.hd hc) (by omega) fun s' p' out c' ns' k g o hp hgt hI hpw hmem hlen => ?_
  have hn : H1 p' = none := I2.hok.fresh hp
  have hle : (ns'.map V.int).length ≤ sizeLine := by rw [List.length_map, sizeLine_eq]; omega
  have J : Inv X pins σ (upd H1 p' (.lst (ns'.map V.int))) { ({ s1 with heap := h', toks := tk } : Shared) with heap := s'.heap, gens := s'.gens, drawn := s'.drawn, toks := s'.toks } :=
    I2.call (ch := []) (Un.laid k hp hn) (I2.hok.laid k hp ⟨hle, out.toList, c', vals_of_ints hI, hgt⟩) (by rw [g]; exact I2.bare) (fun _ z => nomatch z)
  have e : s' = { ({ s1 with heap := h', toks := tk } : Shared) with heap := s'.heap, gens := s'.gens, drawn := s'.drawn, toks := s'.toks } := by
    cases s'
    cases s1
    cases o
    rfl
  rw [e]
  exact ⟨.ref p', _, J, rfl, q1 ns' p' hpw (fun k => by rw [hmem k, decide_eq_true_eq]) hn⟩
end
section
variable {X : Cx} {K : PySem.W.Frag} {W : Wt} {Δ : List Kd} {a b e : Expr} {te ti tk tv ta tb : TE} {g gk gv ga gb : Gd} {fr fr' av : Bool} {pos p p2 q apos cpos : Pos} {x : Str} {m : Nat}
theorem se_sortSetU (ha : SE K W Δ te (.v av fr) g) : SE K W Δ (tSortSetU K te) (.new .l true) (gUn hSortSetU g) := fun f ρ σ H Q R q => by
  refine ha f ρ σ H _ R ?_
  unfold gUn at q
  cases e1 : g ρ with
  | bad => rw [e1] at q; exact q
  | ex z => rw [e1] at q; exact q
  | ok d =>
    rw [e1, bnd_ok] at q
    intro v H1 s1 x1
    cases d with
    | tuple es =>
      unfold hSortSetU at q
      simp only at q
      cases ea : allI es with
      | none => rw [ea] at q; exact q.elim
      | some ns =>
        rw [ea] at q
        simp only at q
        by_cases hl : ns.length < 64
        · rw [if_pos hl] at q
          obtain ⟨c, xs, rfl, hs, r⟩ := x1.sqt
          rw [rp_ints r ea] at hs
          refine ⟨c, ns, rfl, hs, hl, fun ns' p h1 h2 np => ?_⟩
          rw [← iset_of h1 h2] at q
          exact q p _ (s1.free np) (s1.trans (same_upd np)) ⟨_, _, rfl, upd_same, rpA_ints _⟩
        · rw [if_neg hl] at q
          exact q.elim
    | _ => exact q.elim
theorem x_sortSetU (hm : X.mg "sorted" = none) (hm2 : X.mg "set" = none) (h : PD X K W Δ a te (.v av fr) g) (hc : X.calm = true := by rfl) (hg : Gl X "sorted" := by rfl) (hg2 : Gl X "set" := by rfl) (na : starEach [a] X.env = (false, eval a X.env) :: starEach [] X.env := by rfl) :
    PD X K W Δ (.Call (.Name "sorted" p) [.Call (.Name "set" p2) [a] [] q] [] pos) (tSortSetU K te) (.new .l true) (gUn hSortSetU g) := ⟨by have w := pe_sortSetU (X := X) (p := p) (p2 := p2) (q := q) (pos := pos) hc hg hm hg2 hm2 h.pe na; rw [h.hK] at w; exact w, h.hK, se_sortSetU h.se⟩
theorem x_dnew1 (hk : PD X K W Δ a tk (.v av fr') gk) (hv : PD X K W Δ b tv (.v true fr) gv) : PD X K W Δ (.Dict [some a] [b] pos) (tDisp [(tk, tv)]) (.new .dk fr) (gDNew1 gk gv) :=
  ⟨pe_disp (pps_cons hk.pe hv.pe pps_nil) rfl rfl (fun h => nomatch h) (by show 1 ≤ 15; omega), hk.hK, se_dnew1 hk.se hv.se⟩
theorem x_dgetN (i : Nat) (hr : Room m X.A) (h : PD X K W Δ e te (.v av fr') g) (hk : Δ[i]? = some (.own .dk fr) := by rfl) (hv : Vis X.env.scope x := by first | exact Or.inl rfl | exact Or.inr (Or.inl rfl) | exact Or.inr (Or.inr rfl)) (hN : X.N[i]? = some x := by rfl) (hd : (x == ("__debug__" : Str)) = false := by decide) (hcd : (x == ("__classdict__" : Str)) = false := by decide)
    (m1 : attributeBase (.Name x p) "get" X.env (eval (.Name x p) X.env) = eval (.Name x p) X.env := by rfl)
    (m2 : ((backTo cpos (starEach [e] X.env)).all (fun x => !x.1) && (backToKw cpos (keywordEach [] X.env)).all (fun x => x.1.isSome) && decide (([e] : List Expr).length + ([] : List Keyword).length + (if ([] : List Keyword).isEmpty then 0 else 1) < 30)) = true := by rfl)
    (m3 : (apos.endLine == cpos.line) = true := by rfl) (m4 : backTo cpos (starEach [e] X.env) = [(false, eval e X.env)] := by rfl) :
    PD X K W Δ (.Call (.Attribute (.Name x p) "get" apos) [e] [] cpos) (tDGet1 (tVar i) te) (.v true fr) (gDGetN i g) := ⟨pe_dget1 (by have := hr.un; omega) (pe_var hN hv hd hcd) h.pe ⟨m1, m2, m3, m4⟩, h.hK, se_dgetN hk h.se⟩
theorem x_catT (ha : PD X K W Δ a ta (.v av fr) ga) (hb : PD X K W Δ b tb (.v av fr) gb) : PD X K W Δ (.BinOp a .Add b pos) (tOp (rCatA K) ta tb) (.v av fr) (gOp hCatT ga gb) :=
  ⟨pe_op (by have q := op_catA (X := X); rw [ha.hK] at q; exact q) ha.pe hb.pe, ha.hK, se_catT ha.se hb.se⟩
end
end Sim
end T_SimV

section T_SimW
set_option Elab.async false
set_option linter.all false
set_option maxRecDepth 100000
/-! SimW: dicts of one's own with keys that are tuples of ints; xs[::2], xs[1::2]. -/
namespace L2
open PySem PySem.Spec PyProof.Rows
/-- what stands at the places told -/
def pickV {α : Type} (ix : List Nat) (xs : List α) : List α := ix.filterMap (xs[·]?)
theorem Vals.pick {xs : List V} {us : List Value} (r : Vals xs us) : ∀ ix : List Nat, Vals (pickV ix xs) (pickV ix us)
  | [] => .nil
  | i :: ix => by
    unfold pickV
    rw [List.filterMap_cons, List.filterMap_cons]
    have ih := Vals.pick r ix
    unfold pickV at ih
    cases e : xs[i]? with
    | none =>
      have : us[i]? = none := by
        rw [List.getElem?_eq_none_iff] at e ⊢
        rw [← r.length]; exact e
      rw [this]
      exact ih
    | some x =>
      obtain ⟨u, hu, ru⟩ := r.get e
      rw [hu]
      exact .cons ru ih
/-- the places of [a::2] -/
def ix2 (a n : Nat) : List Nat := sliceRange ((if a ≤ n then a else n : Nat) : Int) (n : Int) 2
theorem pick_0 (its : List Value) : (slicePick its.toArray none none (some 2)).toList = pickV (ix2 0 its.length) its := by
  unfold slicePick pickV ix2
  have e : sliceBounds none none (some 2) its.toArray.size = (0, (its.length : Int), 2) := by
    unfold sliceBounds
    simp
  rw [e]
  simp
theorem pick_1 (its : List Value) : (slicePick its.toArray (some 1) none (some 2)).toList = pickV (ix2 1 its.length) its := by
  unfold slicePick pickV ix2
  have e : sliceBounds (some 1) none (some 2) its.toArray.size = (((if 1 ≤ its.length then 1 else its.length : Nat) : Int), (its.length : Int), 2) := by
    unfold sliceBounds
    simp only [List.size_toArray, Option.getD_some]
    by_cases h : 1 ≤ its.length
    · rw [if_pos h]
      simp
      omega
    · have : its.length = 0 := by omega
      rw [this]
      rfl
  rw [e]
  simp
theorem pick_len {α : Type} (a : Nat) (ha : a ≤ 1) (xs : List α) : (pickV (ix2 a xs.length) xs).length ≤ xs.length := by
  refine Nat.le_trans (List.length_filterMap_le _ _) ?_
  unfold ix2
  exact sliceRange_length_le _ _ 2 xs.length (fun _ => ⟨by omega, Int.le_refl _⟩) fun h => absurd (by decide) h
def tSt2 (K : PySem.W.Frag) (a : Nat) (te : TE) : TE := fun σ H Q => te σ H fun x H1 => ∃ l xs, x = .ref l ∧ SqL K H1 l xs ∧ ∀ p, H1 p = none → Q (.ref p) (upd H1 p (.lst (pickV (ix2 a xs.length) xs)))
section
variable {X : Cx} {e : Expr} {te : TE} {k k' : Nat} {p1 p2 p3 pos : Pos}
theorem pe_st2_0 (he : PE X e te) : PE X (.Subscript e (.Slice none none (some (.Constant (.int 2) k p1)) p3) pos) (tSt2 X.K 0 te) := by
  refine ⟨fun pins s σ H Q I h => ?_⟩
  refine Subscript_ (thn (he.run pins s σ H _ I h) fun v s1 ⟨x, H1, I1, r1, q1⟩ => ?_)
  obtain ⟨a, xs, ex, hx, q⟩ := q1
  subst ex
  cases r1
  have hst : PO X (some (.Constant (.int 2) k p1)) (tPart (tC (.int 2))) := po_some pe_int
  refine wpAny_Slice (thn (po_none.run pins s1 σ H1 (fun o H2 => o = none ∧ H2 = H1) I1 ⟨rfl, rfl⟩) fun vl s2 ⟨l, H2, I2, pl, el, e2⟩ => ?_)
  subst el e2
  refine thn (po_none.run pins s2 σ H2 (fun o H3 => o = none ∧ H3 = H2) I2 ⟨rfl, rfl⟩) fun vu s3 ⟨u, H3, I3, pu, eu, e3⟩ => ?_
  subst eu e3
  refine thn (hst.run pins s3 σ H3 (fun o H4 => o = some 2 ∧ H4 = H3) I3 ⟨2, rfl, rfl, rfl⟩) fun vs s4 ⟨o, H4, I4, ps, eo, e4⟩ => ?_
  subst eo e4
  have I5 : Inv X pins σ H4 { s4 with heap := s4.heap.push { cls := .type "slice", data := .fields #[vl, vu, vs] } } := I4.kept (t' := s4.toks) fun b ob q => Heap.get?_push_of_some _ q
  obtain ⟨its, r, ht, hz⟩ := I5.list hx
  have hlen := r.length
  show wpAny (model X.prog X.w) X.A (subscriptTail e (.Slice none none (some (.Constant (.int 2) k p1)) p3) (.ref a) (.ref s4.heap.objs.size)) (EP X pins σ Q) X.xe { s4 with heap := s4.heap.push { cls := .type "slice", data := .fields #[vl, vu, vs] } }
  refine tail_any (ops := [.ref a, .ref s4.heap.objs.size]) ht.isList.typeIs (PySem.slot_list_getitem.lookup) ?_ (by with_unfolding_all rfl)
  refine wpAny_getItem_list_slice ht.isList (Heap.IsSliceOf.new _ vl vu vs) pl pu ps (by decide) ?_ (by rw [List.size_toArray]; omega)
  refine ⟨.ref _, _, I5.laid (t' := s4.toks) (o := .lst (pickV (ix2 0 xs.length) xs)) (fun b ob q => Heap.get?_push_of_some _ q) (Nat.le_refl _) ?_, rfl, q _ (I5.hok.fresh (Nat.le_refl _))⟩
  have hv := r.pick (ix2 0 xs.length)
  have e5 := pick_0 its
  rw [← hlen] at e5
  rw [← e5] at hv
  exact ⟨Nat.le_trans (pick_len 0 (by omega) xs) hz, _, 0, hv, by rw [Array.toArray_toList]; exact Heap.get?_push_size _ rfl⟩
theorem pe_st2_1 (he : PE X e te) : PE X (.Subscript e (.Slice (some (.Constant (.int 1) k' p2)) none (some (.Constant (.int 2) k p1)) p3) pos) (tSt2 X.K 1 te) := by
  refine ⟨fun pins s σ H Q I h => ?_⟩
  refine Subscript_ (thn (he.run pins s σ H _ I h) fun v s1 ⟨x, H1, I1, r1, q1⟩ => ?_)
  obtain ⟨a, xs, ex, hx, q⟩ := q1
  subst ex
  cases r1
  have hst : PO X (some (.Constant (.int 2) k p1)) (tPart (tC (.int 2))) := po_some pe_int
  have hlo : PO X (some (.Constant (.int 1) k' p2)) (tPart (tC (.int 1))) := po_some pe_int
  refine wpAny_Slice (thn (hlo.run pins s1 σ H1 (fun o H2 => o = some 1 ∧ H2 = H1) I1 ⟨1, rfl, rfl, rfl⟩) fun vl s2 ⟨l, H2, I2, pl, el, e2⟩ => ?_)
  subst el e2
  refine thn (po_none.run pins s2 σ H2 (fun o H3 => o = none ∧ H3 = H2) I2 ⟨rfl, rfl⟩) fun vu s3 ⟨u, H3, I3, pu, eu, e3⟩ => ?_
  subst eu e3
  refine thn (hst.run pins s3 σ H3 (fun o H4 => o = some 2 ∧ H4 = H3) I3 ⟨2, rfl, rfl, rfl⟩) fun vs s4 ⟨o, H4, I4, ps, eo, e4⟩ => ?_
  subst eo e4
  have I5 : Inv X pins σ H4 { s4 with heap := s4.heap.push { cls := .type "slice", data := .fields #[vl, vu, vs] } } := I4.kept (t' := s4.toks) fun b ob q => Heap.get?_push_of_some _ q
  obtain ⟨its, r, ht, hz⟩ := I5.list hx
  have hlen := r.length
  show wpAny (model X.prog X.w) X.A (subscriptTail e (.Slice (some (.Constant (.int 1) k' p2)) none (some (.Constant (.int 2) k p1)) p3) (.ref a) (.ref s4.heap.objs.size)) (EP X pins σ Q) X.xe { s4 with heap := s4.heap.push { cls := .type "slice", data := .fields #[vl, vu, vs] } }
  refine tail_any (ops := [.ref a, .ref s4.heap.objs.size]) ht.isList.typeIs (PySem.slot_list_getitem.lookup) ?_ (by with_unfolding_all rfl)
  refine wpAny_getItem_list_slice ht.isList (Heap.IsSliceOf.new _ vl vu vs) pl pu ps (by decide) ?_ (by rw [List.size_toArray]; omega)
  refine ⟨.ref _, _, I5.laid (t' := s4.toks) (o := .lst (pickV (ix2 1 xs.length) xs)) (fun b ob q => Heap.get?_push_of_some _ q) (Nat.le_refl _) ?_, rfl, q _ (I5.hok.fresh (Nat.le_refl _))⟩
  have hv := r.pick (ix2 1 xs.length)
  have e5 := pick_1 its
  rw [← hlen] at e5
  rw [← e5] at hv
  exact ⟨Nat.le_trans (pick_len 1 (by omega) xs) hz, _, 0, hv, by rw [Array.toArray_toList]; exact Heap.get?_push_size _ rfl⟩
end
end L2
namespace Sim
open PySem PySem.Spec L2
open PyProof.Rows hiding St
section
variable {K : PySem.W.Frag} {F : Addr → Prop} {H : Hp}
theorem RpA.pick {xs : List V} {ds : List Dt} (r : RpA K F H xs ds) : ∀ ix : List Nat, RpA K F H (pickV ix xs) (pickV ix ds)
  | [] => .nil
  | i :: ix => by
    unfold pickV
    rw [List.filterMap_cons, List.filterMap_cons]
    have ih := RpA.pick r ix
    unfold pickV at ih
    cases e : xs[i]? with
    | none =>
      have : ds[i]? = none := by
        rw [List.getElem?_eq_none_iff] at e ⊢
        rw [← r.length]; exact e
      rw [this]
      exact ih
    | some x =>
      obtain ⟨u, hu, ru⟩ := r.get e
      rw [hu]
      exact .cons ru ih
end
def hSt2 (a : Nat) : Dt → O Dt := fun d => match d with
  | .list ds => .ok (.list (pickV (ix2 a ds.length) ds))
  | _ => .bad
/-! ### dicts with keys of ints in tuples -/
def isT (ns : List Int) (d : Dt) : Bool := match d with
  | .tuple xs => decide (allI xs = some ns)
  | _ => false
def tPut (es : List (Dt × Dt)) (ns : List Int) (v : Dt) : List (Dt × Dt) := if (es.any fun e => isT ns e.1) = true then es.map (fun e => if isT ns e.1 = true then (e.1, v) else e) else es ++ [(encL ns, v)]
theorem allI_int (i : Int) (ds : List Dt) : allI (.int i :: ds) = (allI ds).map fun ns => i :: ns := by
  conv => lhs; unfold allI
  first
  | done
  | (cases allI ds <;> rfl)
theorem allI_str (x : Str) (ds : List Dt) : allI (.str x :: ds) = none := rfl
theorem allI_keyD : ∀ {k : List Key} {ns : List Int}, allI (k.map keyD) = some ns ↔ k = ns.map Sum.inl
  | [], [] => by simp [allI]
  | [], _ :: _ => by simp [allI]
  | .inl i :: k, [] => by
    rw [List.map_cons]
    show allI (.int i :: k.map keyD) = some [] ↔ _
    rw [allI_int]
    cases allI (k.map keyD) <;> simp
  | .inl i :: k, n :: ns => by
    have ih := @allI_keyD k ns
    rw [List.map_cons]
    show allI (.int i :: k.map keyD) = some (n :: ns) ↔ _
    rw [allI_int, List.map_cons]
    constructor
    · intro z
      cases e : allI (k.map keyD) with
      | none => rw [e] at z; cases z
      | some ms =>
        rw [e] at z
        injection z with z
        injection z with z1 z2
        rw [z2] at e
        rw [ih.mp e, z1]
    · intro z
      injection z with z1 z2
      injection z1 with z1
      rw [ih.mpr z2, z1]
      rfl
  | .inr x :: k, ns => by
    rw [List.map_cons]
    show allI (.str x :: k.map keyD) = some ns ↔ _
    rw [allI_str]
    constructor
    · intro z; cases z
    · intro z
      cases ns with
      | nil => cases z
      | cons n ns => injection z with z1 z2; cases z1
theorem isT_keyD (ns : List Int) (k : List Key) : isT ns (.tuple (k.map keyD)) = decide (k = ns.map Sum.inl) := by
  show decide (allI (k.map keyD) = some ns) = _
  exact decide_eq_decide.mpr allI_keyD
section
variable {K : PySem.W.Frag} {F : Addr → Prop} {H : Hp}
theorem KtA.length : ∀ {kvs : List (List Key × V)} {es : List (Dt × Dt)}, KtA K F H kvs es → kvs.length = es.length
  | _, _, .nil => rfl
  | _, _, .cons _ r => by rw [List.length_cons, List.length_cons, r.length]
theorem KtA.any (ns : List Int) : ∀ {kvs : List (List Key × V)} {es : List (Dt × Dt)}, KtA K F H kvs es → (kvs.any fun kv => decide (kv.1 = ns.map Sum.inl)) = es.any fun e => isT ns e.1
  | _, _, .nil => rfl
  | _, _, .cons h r => by rw [List.any_cons, List.any_cons, r.any ns, isT_keyD]
theorem keyD_ints (ns : List Int) : (ns.map Sum.inl : List Key).map keyD = ns.map PyData.int := by rw [List.map_map]; rfl
theorem kV_ints (ns : List Int) : (ns.map Sum.inl : List Key).map kV = ns.map V.int := by rw [List.map_map]; rfl
theorem KtA.snoc {ns : List Int} {v : V} {d : Dt} (x : Rp K F H v d) : ∀ {kvs : List (List Key × V)} {es : List (Dt × Dt)}, KtA K F H kvs es → KtA K F H (kvs ++ [(ns.map Sum.inl, v)]) (es ++ [(encL ns, d)])
  | _, _, .nil => by
    have := KtA.cons (k := ns.map Sum.inl) x (KtA.nil (K := K) (F := F) (H := H))
    rw [keyD_ints] at this
    exact this
  | _, _, .cons h r => .cons h (r.snoc x)
theorem KtA.over {ns : List Int} {v : V} {d : Dt} (x : Rp K F H v d) : ∀ {kvs : List (List Key × V)} {es : List (Dt × Dt)}, KtA K F H kvs es → KtA K F H (kvs.map fun kv => if kv.1 = ns.map Sum.inl then (kv.1, v) else kv) (es.map fun e => if isT ns e.1 = true then (e.1, d) else e)
  | _, _, .nil => .nil
  | _, _, .cons (k := k') h r => by
    rw [List.map_cons, List.map_cons, isT_keyD]
    by_cases c : k' = ns.map Sum.inl
    · rw [if_pos c, if_pos (by simpa using c)]
      exact .cons x (r.over x)
    · rw [if_neg c, if_neg (by simpa using c)]
      exact .cons h (r.over x)
theorem KtA.put {ns : List Int} {v : V} {d : Dt} (x : Rp K F H v d) {kvs : List (List Key × V)} {es : List (Dt × Dt)} (h : KtA K F H kvs es) : KtA K F H (putK kvs (ns.map Sum.inl) v) (tPut es ns d) := by
  unfold putK tPut
  rw [h.any ns]
  split
  · exact h.over x
  · exact h.snoc x
theorem KtA.keys : ∀ {kvs : List (List Key × V)} {es : List (Dt × Dt)} {bs : List Addr}, KtA K F H kvs es → IsKeys H kvs bs → RpA K F H (bs.map V.ref) (es.map (·.1))
  | _, _, _, .nil, e => by cases e; exact .nil
  | _, _, _, .cons (k := k) h r, e => by
    cases e with
    | cons h1 h2 => exact .cons (.tup (.inl (.inl h1)) (rpA_keys k)) (r.keys h2)
where
  rpA_keys : ∀ k : List Key, RpA K F H (k.map kV) (k.map keyD)
    | [] => .nil
    | .inl i :: k => .cons (.int i) (rpA_keys k)
    | .inr x :: k => .cons (.str x) (rpA_keys k)
end
/-- found[a, b, c] = v -/
def gTPut (i : Nat) (gv : Gd) (gA : List Dt → O (List Dt)) : Gs := fun ρ => bnd (gv ρ) fun v => match dAt ρ i with
  | some es => bnd (gA ρ) fun ks => (match allI ks with
    | some ns => if es.length < 100000 ∧ ns.length ≤ 1000 then .ok (.nx (ρ.set i (.dict (tPut es ns v)))) else .bad
    | none => .bad)
  | none => .bad
/-- list(found) -/
def gTKeys (i : Nat) : Gd := fun ρ => match dAt ρ i with
  | some es => .ok (.list (es.map (·.1)))
  | none => .bad
section
variable {K : PySem.W.Frag} {W : Wt} {Δ Δb Δc : List Kd} {te : TE} {tA : TA} {ge g : Gd} {gA : List Dt → O (List Dt)} {fr fr' av fr2 : Bool} {L : Lk} {i : Nat}
theorem dt_own {f : Fm} {ρ : List Dt} {σ : L2.St} {H : Hp} {es : List (Dt × Dt)} (r : R K f Δ ρ σ H) (hk : Δ[i]? = some (.own .dt fr)) (h : dAt ρ i = some es) :
    ∃ p kvs, σ[i]? = some (some (V.ref p)) ∧ f.H0 p = none ∧ H p = some (.dT kvs) ∧ KtA K (FM f Δ σ true fr) H kvs es := by
  obtain ⟨p, d, g1, g2, g3, kvs, es', ed, g4, g5⟩ := r.ow i .dt fr hk
  rw [dAt_inv h] at g2
  cases g2
  cases ed
  exact ⟨p, kvs, g1, g3, g4, g5⟩
theorem se_dnewT : SE K W Δ tDNewT (.new .dt true) gDNew := fun f ρ σ H Q r q => fun p np => q p _ np (same_upd np) ⟨[], [], rfl, upd_same, .nil⟩
theorem s_tput (hk : Δ[i]? = some (.own .dt fr)) (h : SE K W Δ te (.v true fr') ge) (h2 : SA K W Δ tA av fr2 gA) : SS K W L Δ (Δ.set i (.own .dt (fr && fr'))) Δb Δc (sDPut (tVar i) (tTup tA) te) (gTPut i ge gA) := fun f ρ σ H E r q => h f ρ σ H _ r <| by
  unfold gTPut at q
  cases e : ge ρ with
  | bad => rw [e] at q; exact q
  | ex z => rw [e] at q; exact fun H' s => q σ H' (r.ext.trans s)
  | ok d =>
    rw [e, bnd_ok] at q
    cases ed : dAt ρ i with
    | none => rw [ed] at q; exact q.elim
    | some es =>
      rw [ed] at q
      simp only at q
      obtain ⟨p, kvs, g1, g3, g4, g5⟩ := dt_own r hk ed
      intro v H1 s x
      refine ⟨_, g1, h2 f ρ σ H1 _ (r.mono s) ?_⟩
      cases e2 : gA ρ with
      | bad => rw [e2] at q; exact q
      | ex z => rw [e2] at q; exact fun H' s2 => q σ H' ((r.ext.trans s).trans s2)
      | ok ks =>
        rw [e2, bnd_ok] at q
        intro vs H2 s2 xk
        cases ek : allI ks with
        | none => rw [ek] at q; exact q.elim
        | some ns =>
          rw [ek] at q
          simp only at q
          by_cases hl : es.length < 100000 ∧ ns.length ≤ 1000
          · rw [if_pos hl] at q
            rw [rp_ints xk ek]
            refine ⟨by rw [List.length_map]; exact Nat.le_trans hl.2 (by decide), fun b nb => ?_⟩
            have s3 : Same H2 (upd H2 b (.tup (ns.map V.int))) := same_upd nb
            have s13 := (s.trans s2).trans s3
            have hp := s13 _ _ g4
            have eb : (upd H2 b (.tup (ns.map V.int))) b = some (.tup ((ns.map Sum.inl : List Key).map kV)) := by rw [kV_ints]; exact upd_same
            refine ⟨p, _, rfl, DPut.t hp eb (by rw [g5.length]; exact Nat.lt_of_lt_of_le hl.1 (by decide)), q σ _ ?_⟩
            refine (r.mono s13).updOwn hk g1 (c' := .dt) (show Mutb (.dT _) from trivial) ⟨_, _, rfl, upd_same, ?_⟩
            have nf : ∀ {fr : Bool} (a : Addr), FM f Δ σ true fr a → a ≠ p := fun a fa z => (fa.1 rfl).1 (z ▸ ⟨i, .dt, _, hk, g1⟩)
            refine KtA.put ((Rp.updM hp trivial (fun a fa => nf a fa) ((x.same s2).same s3)).weak fun a y => y.weak id fun h => (Bool.and_eq_true_iff.mp h).2) ?_
            exact g5.map fun v d z => (Rp.updM hp trivial (fun a fa => nf a fa) (z.same s13)).weak fun a y => y.weak id fun h => (Bool.and_eq_true_iff.mp h).1
          · rw [if_neg hl] at q
            exact q.elim
theorem se_tkeys (hk : Δ[i]? = some (.own .dt fr)) : SE K W Δ (tCB (fun xs H Q => ∃ d kvs, xs = [V.ref d] ∧ Rd H d (.dT kvs) ∧ ∀ p bs, H p = none → IsKeys H kvs bs → Q (.ref p) (upd H p (.lst (bs.map V.ref)))) (tCons (tVar i) tNil)) (.new .l fr) (gTKeys i) := fun f ρ σ H Q r q => by
  unfold gTKeys at q
  cases ed : dAt ρ i with
  | none => rw [ed] at q; exact q.elim
  | some es =>
    rw [ed] at q
    obtain ⟨p, kvs, g1, g3, g4, g5⟩ := dt_own r hk ed
    refine ⟨_, g1, p, kvs, rfl, .inl g4, fun l bs nl hb => ?_⟩
    refine q l _ nl (same_upd nl) ⟨_, _, rfl, upd_same, ?_⟩
    exact (g5.keys hb).mono (same_upd nl) fun a y z => ⟨y, fun e => z (e ▸ nl)⟩
theorem se_st2 (a : Nat) (ha : SE K W Δ te (.v true fr) g) : SE K W Δ (tSt2 K a te) (.new .l fr) (gUn (hSt2 a) g) := fun f ρ σ H Q R q => by
  refine ha f ρ σ H _ R ?_
  unfold gUn at q
  cases e1 : g ρ with
  | bad => rw [e1] at q; exact q
  | ex z => rw [e1] at q; exact q
  | ok d =>
    rw [e1, bnd_ok] at q
    intro v H1 s1 x1
    cases d with
    | list es =>
      obtain ⟨c, xs, rfl, hs, r⟩ := x1.sql
      refine ⟨c, xs, rfl, hs, fun p np => q p _ (s1.free np) (s1.trans (same_upd np)) ⟨_, _, rfl, upd_same, ?_⟩⟩
      rw [r.length]
      exact (r.pick _).mono (same_upd np) fun a y z => ⟨y, fun e => z (e ▸ np)⟩
    | _ => exact q.elim
theorem se_st2O (a : Nat) (ha : SE K W Δ te (.o fr) g) : SE K W Δ (tSt2 K a te) (.new .l fr) (gUn (hSt2 a) g) := fun f ρ σ H Q R q => by
  refine ha f ρ σ H _ R ?_
  unfold gUn at q
  cases e1 : g ρ with
  | bad => rw [e1] at q; exact q
  | ex z => rw [e1] at q; exact q
  | ok d =>
    rw [e1, bnd_ok] at q
    intro p H1 vs ds ed s1 hp gp x1
    subst ed
    refine ⟨p, vs, rfl, .inl (.inl hp), fun p np => q p _ (s1.free np) (s1.trans (same_upd np)) ⟨_, _, rfl, upd_same, ?_⟩⟩
    rw [x1.length]
    exact (x1.pick _).mono (same_upd np) fun a y z => ⟨y, fun e => z (e ▸ np)⟩
end
section
variable {X : Cx} {K : PySem.W.Frag} {W : Wt} {Δ Δb Δc : List Kd} {a b e : Expr} {es : List Expr} {te : TE} {tA : TA} {g ge : Gd} {gA : List Dt → O (List Dt)} {fr fr' fr2 av : Bool} {L : Lk} {pos pos' p p1 p2 p3 pT : Pos} {x : Str} {k k' m : Nat}
theorem x_dnewT (hK : X.K = K := by rfl) : PD X K W Δ (.Dict [] [] pos) tDNewT (.new .dt true) gDNew := ⟨pe_dnewT, hK, se_dnewT⟩
theorem x_st2_0 (h : PD X K W Δ e te (.v true fr) g) : PD X K W Δ (.Subscript e (.Slice none none (some (.Constant (.int 2) k p1)) p3) pos) (tSt2 K 0 te) (.new .l fr) (gUn (hSt2 0) g) := ⟨by have q := pe_st2_0 (X := X) (k := k) (p1 := p1) (p3 := p3) (pos := pos) h.pe; rw [h.hK] at q; exact q, h.hK, se_st2 0 h.se⟩
theorem x_st2_1 (h : PD X K W Δ e te (.v true fr) g) : PD X K W Δ (.Subscript e (.Slice (some (.Constant (.int 1) k' p2)) none (some (.Constant (.int 2) k p1)) p3) pos) (tSt2 K 1 te) (.new .l fr) (gUn (hSt2 1) g) := ⟨by have q := pe_st2_1 (X := X) (k := k) (k' := k') (p1 := p1) (p2 := p2) (p3 := p3) (pos := pos) h.pe; rw [h.hK] at q; exact q, h.hK, se_st2 1 h.se⟩
theorem x_st2O_0 (h : PD X K W Δ e te (.o fr) g) : PD X K W Δ (.Subscript e (.Slice none none (some (.Constant (.int 2) k p1)) p3) pos) (tSt2 K 0 te) (.new .l fr) (gUn (hSt2 0) g) := ⟨by have q := pe_st2_0 (X := X) (k := k) (p1 := p1) (p3 := p3) (pos := pos) h.pe; rw [h.hK] at q; exact q, h.hK, se_st2O 0 h.se⟩
theorem x_st2O_1 (h : PD X K W Δ e te (.o fr) g) : PD X K W Δ (.Subscript e (.Slice (some (.Constant (.int 1) k' p2)) none (some (.Constant (.int 2) k p1)) p3) pos) (tSt2 K 1 te) (.new .l fr) (gUn (hSt2 1) g) := ⟨by have q := pe_st2_1 (X := X) (k := k) (k' := k') (p1 := p1) (p2 := p2) (p3 := p3) (pos := pos) h.pe; rw [h.hK] at q; exact q, h.hK, se_st2O 1 h.se⟩
theorem z_tput (i : Nat) {x1} (hr : Room m X.A) (h : PD X K W Δ e te (.v true fr') ge) (h2 : AD X K W Δ es tA av fr2 gA) (hk : Δ[i]? = some (.own .dt fr) := by rfl) (hv : Vis X.env.scope x := by first | exact Or.inl rfl | exact Or.inr (Or.inl rfl) | exact Or.inr (Or.inr rfl)) (hN : X.N[i]? = some x := by rfl) (hd : (x == ("__debug__" : Str)) = false := by decide) (hcd : (x == ("__classdict__" : Str)) = false := by decide) (hs : swapsWith e (some (.Subscript (.Name x p) (.Tuple es x1 pT) pos')) pos.line X.env = pure false := by rfl) :
    SD X K W L Δ (Δ.set i (.own .dt (fr && fr'))) Δb Δc (.Assign [.Subscript (.Name x p) (.Tuple es x1 pT) pos'] e pos) (sDPut (tVar i) (tTup tA) te) (gTPut i ge gA) := ⟨ps_dput (by have := hr.un; omega) (pe_var hN hv hd hcd) (pe_tup h2.pa) h.pe hs, h.hK, s_tput hk h.se h2.sa⟩
theorem x_tkeys (i : Nat) (hm : X.mg "list" = none) (hk : Δ[i]? = some (.own .dt fr) := by rfl) (hc : X.calm = true := by rfl) (hK : X.K = K := by rfl) (hv : Vis X.env.scope x := by first | exact Or.inl rfl | exact Or.inr (Or.inl rfl) | exact Or.inr (Or.inr rfl)) (hN : X.N[i]? = some x := by rfl) (hd : (x == ("__debug__" : Str)) = false := by decide) (hcd : (x == ("__classdict__" : Str)) = false := by decide) (hg : Gl X "list" := by rfl)
    (he : starEach [.Name x p] X.env = (false, eval (.Name x p) X.env) :: starEach [] X.env := by rfl) (hpl : (backTo pos (starEach [] X.env)).any (·.1) = false := by rfl) :
    PD X K W Δ (.Call (.Name "list" p1) [.Name x p] [] pos) (tCB (fun xs H Q => ∃ d kvs, xs = [V.ref d] ∧ Rd H d (.dT kvs) ∧ ∀ p bs, H p = none → IsKeys H kvs bs → Q (.ref p) (upd H p (.lst (bs.map V.ref)))) (tCons (tVar i) tNil)) (.new .l fr) (gTKeys i) :=
  ⟨pe_callTy (call_list_dT hc) hg hm (by decide +kernel) (pa_cons (pe_var hN hv hd hcd) pa_nil he) (by decide) (by decide) he hpl, hK, se_tkeys hk⟩
end
end Sim
end T_SimW

section T_SimM
set_option Elab.async false
set_option linter.all false
set_option maxRecDepth 100000
/-! SimM: defs that change their first argument (a list or dict of scalars), and expressions in which they are called. -/
namespace Sim
open PySem PySem.Spec L2
open PyProof.Rows hiding St

abbrev Gx := List Dt → O (Dt × List Dt)
abbrev Fm.pn (f : Fm) (p : Addr) : Fm := { f with P := p :: f.P }

def PoX (K : PySem.W.Frag) (f : Fm) (Δ : List Kd) (σ : L2.St) (k : Rk) (o : O (Dt × List Dt)) (Q : VK) : Prop := match o with
  | .ok (d, ρ') => (match k with
    | .v av fr => ∀ v H', R K f Δ ρ' σ H' → Rp K (FM f Δ σ av fr) H' v d → Q v H'
    | .new c fr => ∀ p H', R K (f.pn p) Δ ρ' σ H' → p ∉ f.P → f.H0 p = none → OwC K c (FM (f.pn p) Δ σ true fr) H' p d → Q (.ref p) H'
    | .o _ => False)
  | _ => False
def SX (K : PySem.W.Frag) (Δ : List Kd) (te : TE) (k : Rk) (g : Gx) : Prop := ∀ f ρ σ H Q, R K f Δ ρ σ H → PoX K f Δ σ k (g ρ) Q → te σ H Q
def PoXA (K : PySem.W.Frag) (f : Fm) (Δ : List Kd) (σ : L2.St) (av fr : Bool) (o : O (List Dt × List Dt)) (Q : List V → Hp → Prop) : Prop := match o with
  | .ok (ds, ρ') => ∀ vs H', R K f Δ ρ' σ H' → RpA K (FM f Δ σ av fr) H' vs ds → Q vs H'
  | _ => False
def SXA (K : PySem.W.Frag) (Δ : List Kd) (ta : TA) (av fr : Bool) (g : List Dt → O (List Dt × List Dt)) : Prop := ∀ f ρ σ H Q, R K f Δ ρ σ H → PoXA K f Δ σ av fr (g ρ) Q → ta σ H Q
def PoXT (K : PySem.W.Frag) (f : Fm) (Δ : List Kd) (σ : L2.St) (o : O (Bool × List Dt)) (Q : Bool → Hp → Prop) : Prop := match o with
  | .ok (b, ρ') => ∀ H', R K f Δ ρ' σ H' → Q b H'
  | _ => False
def SXT (K : PySem.W.Frag) (Δ : List Kd) (tt : TT) (g : List Dt → O (Bool × List Dt)) : Prop := ∀ f ρ σ H Q, R K f Δ ρ σ H → PoXT K f Δ σ (g ρ) Q → tt σ H Q

/-! ### closures -/
def xP (g : Gd) : Gx := fun ρ => bnd (g ρ) fun d => .ok (d, ρ)
def xPA (g : List Dt → O (List Dt)) : List Dt → O (List Dt × List Dt) := fun ρ => bnd (g ρ) fun d => .ok (d, ρ)
def xPT (g : List Dt → O Bool) : List Dt → O (Bool × List Dt) := fun ρ => bnd (g ρ) fun d => .ok (d, ρ)
def xOp (h : Dt → Dt → O Dt) (a b : Gx) : Gx := fun ρ => bnd (a ρ) fun x => bnd (b x.2) fun y => bnd (h x.1 y.1) fun z => .ok (z, y.2)
def xNil : List Dt → O (List Dt × List Dt) := fun ρ => .ok ([], ρ)
def xCons (a : Gx) (b : List Dt → O (List Dt × List Dt)) : List Dt → O (List Dt × List Dt) := fun ρ => bnd (a ρ) fun x => bnd (b x.2) fun y => .ok (x.1 :: y.1, y.2)
def xCB (h : List Dt → O Dt) (a : List Dt → O (List Dt × List Dt)) : Gx := fun ρ => bnd (a ρ) fun x => bnd (h x.1) fun z => .ok (z, x.2)
def xTup (a : List Dt → O (List Dt × List Dt)) : Gx := fun ρ => bnd (a ρ) fun x => if x.1.length ≤ 100000 then .ok (.tuple x.1, x.2) else .bad
def xLst (a : List Dt → O (List Dt × List Dt)) : Gx := fun ρ => bnd (a ρ) fun x => if x.1.length ≤ 100000 then .ok (.list x.1, x.2) else .bad
def xTest (a : Gx) : List Dt → O (Bool × List Dt) := fun ρ => bnd (a ρ) fun x => bnd (asB x.1) fun b => .ok (b, x.2)
def xNot (t : List Dt → O (Bool × List Dt)) : List Dt → O (Bool × List Dt) := fun ρ => bnd (t ρ) fun x => .ok (!x.1, x.2)
def xAnd (t u : List Dt → O (Bool × List Dt)) : List Dt → O (Bool × List Dt) := fun ρ => bnd (t ρ) fun x => if x.1 then u x.2 else .ok (false, x.2)
def xOr (t u : List Dt → O (Bool × List Dt)) : List Dt → O (Bool × List Dt) := fun ρ => bnd (t ρ) fun x => if x.1 then .ok (true, x.2) else u x.2
def xIxO (i : Nat) (b : Gx) : Gx := fun ρ => bnd (b ρ) fun y => match y.2[i]? with
  | some a => bnd (hIx a y.1) fun z => .ok (z, y.2)
  | none => .bad
def xCallN (n : Nat) (g : List Dt → O Dt) (gA : List Dt → O (List Dt × List Dt)) : Gx := fun ρ => bnd (gA ρ) fun x => if x.1.length = n then (match g x.1 with
  | .ok d => .ok (d, x.2)
  | _ => .bad) else .bad
def argK : Ct → Dt → Bool
  | .la, .list es => sclA es
  | .ka, .dict es => sclV es
  | _, _ => false
def xCallM (c : Ct) (n : Nat) (g : List Dt → O Dt) (i : Nat) (gA : List Dt → O (List Dt × List Dt)) : Gx := fun ρ => bnd (gA ρ) fun x => if x.1.length + 1 = n then (match x.2[i]? with
  | some a => if argK c a then (match g (a :: x.1) with
    | .ok (.tuple [r, e]) => if argK c e then .ok (r, x.2.set i e) else .bad
    | _ => .bad) else .bad
  | none => .bad) else .bad
def bx {α β : Type} (x : O α) (f : α → O β) : O β := match x with
  | .ok a => f a
  | _ => .bad
def xSet (i : Nat) (g : Gx) : Gs := fun ρ => bx (g ρ) fun x => .ok (.nx (x.2.set i x.1))
def xAsg (g : Gx) (h : Dt → List Dt → O (List Dt)) : Gs := fun ρ => bx (g ρ) fun x => match h x.1 x.2 with
  | .ok ρ' => .ok (.nx ρ')
  | _ => .bad
def xDrop (g : Gx) : Gs := fun ρ => bx (g ρ) fun x => .ok (.nx x.2)
def xIfS (t : List Dt → O (Bool × List Dt)) (a b : Gs) : Gs := fun ρ => bx (t ρ) fun x => if x.1 then a x.2 else b x.2
def xRet (g : Gx) : Gs := fun ρ => bx (g ρ) fun x => .ok (.rt x.1)
def argD : Dt → Bool
  | .list es => sclA es
  | .dict es => sclV es
  | _ => false
def xRetM (g : Gx) : Gs := fun ρ => bx (g ρ) fun x => match x.2[0]? with
  | some e => if argD e then .ok (.rt (.tuple [x.1, e])) else .bad
  | none => .bad
def xApp (i : Nat) (g : Gx) : Gs := fun ρ => bx (g ρ) fun x => match x.2[i]? with
  | some (.list ds) => if ds.length < 100000 then .ok (.nx (x.2.set i (.list (ds ++ [x.1])))) else .bad
  | _ => .bad
def xFor (gi : List Dt → O (List Dt × List Dt)) (h : Dt → List Dt → O (List Dt)) (b : Gs) : Gs := fun ρ => bx (gi ρ) fun x => forE h b x.1 x.2

theorem sclA_any {K : PySem.W.Frag} {F F' : Addr → Prop} {H H' : Hp} : ∀ {vs : List V} {ds : List Dt}, RpA K F H vs ds → sclA ds = true → RpA K F' H' vs ds
  | _, _, .nil, _ => .nil
  | _, _, .cons h r, e => by
    unfold sclA at e
    rw [Bool.and_eq_true] at e
    exact .cons (h.scl_any e.1) (sclA_any r e.2)
theorem sclV_any {K : PySem.W.Frag} {F F' : Addr → Prop} {H H' : Hp} : ∀ {vs : List (L2.Key × V)} {ds : List (Dt × Dt)}, KvA K F H vs ds → sclV ds = true → KvA K F' H' vs ds
  | _, _, .nil, _ => .nil
  | _, _, .cons h r, e => by
    unfold sclV at e
    rw [Bool.and_eq_true] at e
    exact .cons (h.scl_any e.1) (sclV_any r e.2)

section
variable {K : PySem.W.Frag} {f : Fm} {Δ : List Kd} {ρ : List Dt} {σ : L2.St} {H H' : Hp} {p : Addr} {d : Dt} {i : Nat}
theorem R.pinNew (r : R K f Δ ρ σ H) (np : H p = none) (e : Same H H') (m : ∃ o, H' p = some o ∧ Mutb o) : R K (f.pn p) Δ ρ σ H' := by
  obtain ⟨f1, f2, f3⟩ := r.fresh np
  have key : ∀ {fr : Bool} {v : V} {d : Dt}, Rp K (FM f Δ σ true fr) H v d → Rp K (FM (f.pn p) Δ σ true fr) H' v d := fun h =>
    h.mono e fun a fa na => ⟨fun _ => ⟨(fa.1 rfl).1, fun z => by
      rcases List.mem_cons.mp z with e | h
      · exact na (e ▸ np)
      · exact (fa.1 rfl).2 h⟩, fa.2⟩
  refine ⟨r.ext.trans e, r.g0, r.lσ, r.lρ, r.inj, fun a ha => ?_, fun g hg => (r.gh g hg).map fun _ _ x => key x, fun i fr h => ?_, fun i c fr h => ?_, r.ar⟩
  · rcases List.mem_cons.mp ha with q | h
    · subst q
      exact ⟨m, f1⟩
    · obtain ⟨⟨u, hu, mu⟩, no⟩ := r.pin a h
      exact ⟨⟨u, e _ _ hu, mu⟩, no⟩
  · obtain ⟨v, d, h1, h2, h3⟩ := r.im i fr h
    exact ⟨v, d, h1, h2, key h3⟩
  · obtain ⟨v, d, h1, h2, h3, h4⟩ := r.ow i c fr h
    exact ⟨v, d, h1, h2, h3, h4.map (fun o q => e _ _ q) fun _ _ x => key x⟩
theorem R.dropP (r : R K (f.pn p) Δ ρ σ H) : R K f Δ ρ σ H := by
  have key : ∀ {fr : Bool} {v : V} {d : Dt}, Rp K (FM (f.pn p) Δ σ true fr) H v d → Rp K (FM f Δ σ true fr) H v d := fun h =>
    h.weak fun a fa => ⟨fun _ => ⟨(fa.1 rfl).1, fun z => (fa.1 rfl).2 (List.mem_cons_of_mem _ z)⟩, fa.2⟩
  refine ⟨r.ext, r.g0, r.lσ, r.lρ, r.inj, fun a ha => r.pin a (List.mem_cons_of_mem _ ha), fun g hg => (r.gh g hg).map fun _ _ x => key x, fun i fr h => ?_, fun i c fr h => ?_, r.ar⟩
  · obtain ⟨v, d, h1, h2, h3⟩ := r.im i fr h
    exact ⟨v, d, h1, h2, key h3⟩
  · obtain ⟨v, d, h1, h2, h3, h4⟩ := r.ow i c fr h
    exact ⟨v, d, h1, h2, h3, h4.map (fun o q => q) fun _ _ x => key x⟩
/-- a pinned new object becomes a slot's own -/
theorem R.setOwnP {c : Ct} {fr : Bool} (r : R K (f.pn p) Δ ρ σ H) (hi : i < Δ.length) (h0 : f.H0 p = none) (hP : p ∉ f.P) (h : OwC K c (FM (f.pn p) Δ σ true fr) H p d) (hc : isArg c = false := by rfl) :
    R K f (Δ.set i (.own c fr)) (ρ.set i d) (σ.set i (some (.ref p))) H := by
  have np : ¬ Ow Δ σ p := (r.pin p List.mem_cons_self).2
  have ow' : ∀ a, Ow (Δ.set i (.own c fr)) (σ.set i (some (.ref p))) a → Ow Δ σ a ∨ a = p := fun a => by
    rintro ⟨j, cj, fj, h1, h2⟩
    by_cases z : i = j
    · subst z
      rw [List.getElem?_set_self (by rw [r.lσ]; exact hi)] at h2
      cases h2
      exact .inr rfl
    · rw [List.getElem?_set_ne z] at h1 h2
      exact .inl ⟨j, cj, fj, h1, h2⟩
  have key : ∀ {fr' : Bool} {v' : V} {d' : Dt}, Rp K (FM (f.pn p) Δ σ true fr') H v' d' → Rp K (FM f (Δ.set i (.own c fr)) (σ.set i (some (.ref p))) true fr') H v' d' := fun h =>
    h.weak fun a fa => ⟨fun _ => ⟨fun z => by
      rcases ow' a z with z | z
      · exact (fa.1 rfl).1 z
      · exact (fa.1 rfl).2 (z ▸ List.mem_cons_self), fun z => (fa.1 rfl).2 (List.mem_cons_of_mem _ z)⟩, fa.2⟩
  refine ⟨r.ext, r.g0, by rw [List.length_set, List.length_set]; exact r.lσ, by rw [List.length_set, List.length_set]; exact r.lρ, ?_, fun a ha => ⟨(r.pin a (List.mem_cons_of_mem _ ha)).1, fun z => ?_⟩, fun g hg => (r.gh g hg).map fun _ _ x => key x, fun j fj h' => ?_, fun j cj fj h' => ?_, fun j cj fj h' ha => ?_⟩
  · have g : ∀ {j : Nat} {cj : Ct} {fj : Bool} {q : Addr}, (Δ.set i (Kd.own c fr))[j]? = some (Kd.own cj fj) → (σ.set i (some (V.ref p)))[j]? = some (some (V.ref q)) → (i = j ∧ q = p) ∨ (i ≠ j ∧ Δ[j]? = some (Kd.own cj fj) ∧ σ[j]? = some (some (V.ref q)) ∧ q ≠ p) := fun {j cj fj q} h h2 => by
      by_cases z : i = j
      · subst z
        rw [List.getElem?_set_self (by rw [r.lσ]; exact hi)] at h2
        cases h2
        exact .inl ⟨rfl, rfl⟩
      · rw [List.getElem?_set_ne z] at h h2
        exact .inr ⟨z, h, h2, fun y => np ⟨j, cj, fj, h, y ▸ h2⟩⟩
    intro j k cj fj ck fk q h1 h2 h3 h4
    rcases g h1 h3 with ⟨a1, b1⟩ | ⟨a1, b1, c1, d1⟩
    · rcases g h2 h4 with ⟨a2, b2⟩ | ⟨a2, b2, c2, d2⟩
      · exact a1 ▸ a2
      · exact (d2 b1).elim
    · rcases g h2 h4 with ⟨a2, b2⟩ | ⟨a2, b2, c2, d2⟩
      · exact (d1 b2).elim
      · exact r.inj j k _ _ _ _ q b1 b2 c1 c2
  · rcases ow' a z with z | z
    · exact (r.pin a (List.mem_cons_of_mem _ ha)).2 z
    · exact hP (z ▸ ha)
  · by_cases z : i = j
    · subst z
      rw [List.getElem?_set_self hi] at h'
      cases h'
    · rw [List.getElem?_set_ne z] at h'
      obtain ⟨v', d', h1, h2, h3⟩ := r.im j fj h'
      exact ⟨v', d', by rw [List.getElem?_set_ne z]; exact h1, by rw [List.getElem?_set_ne z]; exact h2, key h3⟩
  · by_cases z : i = j
    · subst z
      rw [List.getElem?_set_self hi] at h'
      cases h'
      exact ⟨p, d, by rw [List.getElem?_set_self (by rw [r.lσ]; exact hi)], by rw [List.getElem?_set_self (by rw [r.lρ]; exact hi)], h0, h.map (fun o e => e) fun _ _ x => key x⟩
    · rw [List.getElem?_set_ne z] at h'
      obtain ⟨q, d', h1, h2, h3, h4⟩ := r.ow j cj fj h'
      exact ⟨q, d', by rw [List.getElem?_set_ne z]; exact h1, by rw [List.getElem?_set_ne z]; exact h2, h3, h4.map (fun u x => x) fun _ _ x => key x⟩
  · by_cases z : i = j
    · subst z
      rw [List.getElem?_set_self hi] at h'
      cases h'
      rw [hc] at ha
      cases ha
    · rw [List.getElem?_set_ne z] at h'
      obtain ⟨q, h1, h2⟩ := r.ar j cj fj h' ha
      exact ⟨q, h1, by rw [List.getElem?_set_ne z]; exact h2⟩
end

section
variable {K : PySem.W.Frag} {W : Wt} {Δ Δn Δb Δc : List Kd} {ta tb te : TE} {tt tu : TT} {tA : TA} {g : Gd} {ga gb gx : Gx} {gt gu : List Dt → O (Bool × List Dt)} {gA : List Dt → O (List Dt × List Dt)} {k : Rk} {av fr av' fr' : Bool} {L : Lk} {i : Nat} {t u : TS} {g1 g2 : Gs}

/-! ### from what changes nothing -/
theorem SX.of (h : SE K W0 Δ te (.v av fr) g) : SX K Δ te (.v av fr) (xP g) := fun f ρ σ H Q r q => h f ρ σ H Q r <| by
  unfold xP at q
  cases e : g ρ with
  | bad => rw [e] at q; exact q.elim
  | ex z => rw [e] at q; exact q.elim
  | ok d => rw [e] at q; exact fun v H' s x => q v H' (r.mono s) x
theorem SX.ofN {c : Ct} (h : SE K W0 Δ te (.new c fr) g) : SX K Δ te (.new c fr) (xP g) := fun f ρ σ H Q r q => h f ρ σ H Q r <| by
  unfold xP at q
  cases e : g ρ with
  | bad => rw [e] at q; exact q.elim
  | ex z => rw [e] at q; exact q.elim
  | ok d =>
    rw [e] at q
    intro p H' np s x
    obtain ⟨f1, f2, f3⟩ := r.fresh np
    refine q p H' (r.pinNew np s x.mutb) f2 f3 (x.map (fun _ e => e) fun _ _ y => y.weak fun a fa => ⟨fun _ => ⟨(fa.1.1 rfl).1, fun z => ?_⟩, fa.1.2⟩)
    rcases List.mem_cons.mp z with z | z
    · exact fa.2 z
    · exact (fa.1.1 rfl).2 z
theorem SXA.of {gA : List Dt → O (List Dt)} (h : SA K W0 Δ tA av fr gA) : SXA K Δ tA av fr (xPA gA) := fun f ρ σ H Q r q => h f ρ σ H Q r <| by
  unfold xPA at q
  cases e : gA ρ with
  | bad => rw [e] at q; exact q.elim
  | ex z => rw [e] at q; exact q.elim
  | ok d => rw [e] at q; exact fun v H' s x => q v H' (r.mono s) x
theorem SXT.of {gt : List Dt → O Bool} (h : ST K W0 Δ tt gt) : SXT K Δ tt (xPT gt) := fun f ρ σ H Q r q => h f ρ σ H Q r <| by
  unfold xPT at q
  cases e : gt ρ with
  | bad => rw [e] at q; exact q.elim
  | ex z => rw [e] at q; exact q.elim
  | ok d => rw [e] at q; exact fun H' s => q H' (r.mono s)
theorem SX.wk (h : SX K Δ te (.v av fr) gx) (h1 : av' = true → av = true := by decide) (h2 : fr' = true → fr = true := by decide) : SX K Δ te (.v av' fr') gx := fun f ρ σ H Q r q => h f ρ σ H Q r <| by
  cases e : gx ρ with
  | bad => rw [e] at q; exact q.elim
  | ex z => rw [e] at q; exact q.elim
  | ok d => rw [e] at q; exact fun v H' s x => q v H' s (x.fm h1 h2)
/-- a new list, as a value -/
theorem SX.nv (h : SX K Δ te (.new .l fr) gx) : SX K Δ te (.v true fr) gx := fun f ρ σ H Q r q => h f ρ σ H Q r <| by
  cases e : gx ρ with
  | bad => rw [e] at q; exact q.elim
  | ex z => rw [e] at q; exact q.elim
  | ok d =>
    rw [e] at q
    intro p H' r' hP h0 x
    obtain ⟨vs, ds, ed, hp, x⟩ := x
    have no := (r'.pin p List.mem_cons_self).2
    have q : ∀ v H', R K f Δ d.2 σ H' → Rp K (FM f Δ σ true fr) H' v d.1 → Q v H' := q
    rw [ed] at q
    exact q _ H' r'.dropP (.lst hp ⟨fun _ => ⟨no, hP⟩, fun _ => r'.g0 p h0⟩ (x.weak fun a fa => ⟨fun _ => ⟨(fa.1 rfl).1, fun z => (fa.1 rfl).2 (List.mem_cons_of_mem _ z)⟩, fa.2⟩))

/-! ### operators, argument lists, displays -/
theorem bnd_inv' {α β : Type} {x : O α} {k : α → O β} {P : O β → Prop} (hb : ¬ P .bad) (he : ∀ e, ¬ P (.ex e)) (h : P (bnd x k)) : ∃ a, x = .ok a ∧ P (k a) := by
  cases x with
  | bad => exact (hb h).elim
  | ex e => exact (he e h).elim
  | ok a => exact ⟨a, rfl, h⟩
theorem sx_op {r : R2} {h : Dt → Dt → O Dt} (hs : Scl2 h) (ho : OSc K r h) (ha : SX K Δ ta (.v true fr) ga) (hb : SX K Δ tb (.v av' fr') gb) : SX K Δ (tOp r ta tb) (.v true true) (xOp h ga gb) := fun f ρ σ H Q R q => by
  refine ha f ρ σ H _ R ?_
  unfold xOp at q
  obtain ⟨⟨d, ρ1⟩, e1, q⟩ := bnd_inv' (P := fun o => PoX K f Δ σ (.v true true) o Q) id (fun _ => id) q
  rw [e1]
  intro v H1 R1 x1
  have R1' := R1.addG (fr := fr) (.cons x1 .nil)
  refine hb _ ρ1 σ H1 _ R1' ?_
  obtain ⟨⟨d2, ρ2⟩, e2, q⟩ := bnd_inv' (P := fun o => PoX K f Δ σ (.v true true) o Q) id (fun _ => id) q
  have e2 : gb ρ1 = _ := e2
  rw [e2]
  intro v2 H2 R2 x2
  have x1' : Rp K (FM f Δ σ true fr) H2 v d := by
    cases R2.gh _ List.mem_cons_self with
    | cons h _ => exact h
  have q : PoX K f Δ σ (.v true true) (bnd (h d d2) fun z => .ok (z, ρ2)) Q := q
  refine ho H2 v v2 d d2 Q (x1'.weak fun _ _ => trivial) (x2.weak fun _ _ => trivial) ?_
  rcases hs d d2 with ⟨z, ez, sz⟩ | ez
  · rw [ez] at q ⊢
    exact ⟨sz, fun w x => q w H2 R2.dropG (x.scl_any sz)⟩
  · rw [ez] at q
    exact q.elim
theorem sxa_nil : SXA K Δ tNil true true xNil := fun f ρ σ H Q r q => q [] H r .nil
theorem sxa_cons (ha : SX K Δ ta (.v true fr) ga) (hr : SXA K Δ tA true fr' gA) : SXA K Δ (tCons ta tA) true (fr && fr') (xCons ga gA) := fun f ρ σ H Q R q => by
  refine ha f ρ σ H _ R ?_
  unfold xCons at q
  obtain ⟨⟨d, ρ1⟩, e1, q⟩ := bnd_inv' (P := fun o => PoXA K f Δ σ true (fr && fr') o Q) id (fun _ => id) q
  rw [e1]
  intro v H1 R1 x1
  have R1' := R1.addG (fr := fr) (.cons x1 .nil)
  refine hr _ ρ1 σ H1 _ R1' ?_
  obtain ⟨⟨ds, ρ2⟩, e2, q⟩ := bnd_inv' (P := fun o => PoXA K f Δ σ true (fr && fr') o Q) id (fun _ => id) q
  have e2 : gA ρ1 = _ := e2
  rw [e2]
  intro vs H2 R2 x2
  have x1' : Rp K (FM f Δ σ true fr) H2 v d := by
    cases R2.gh _ List.mem_cons_self with
    | cons h _ => exact h
  exact q (v :: vs) H2 R2.dropG (.cons (x1'.fm id fun h => (Bool.and_eq_true_iff.mp h).1) (x2.weak fun _ y => y.weak id fun h => (Bool.and_eq_true_iff.mp h).2))
theorem SXA.wk (h : SXA K Δ tA av fr gA) (h1 : av' = true → av = true := by decide) (h2 : fr' = true → fr = true := by decide) : SXA K Δ tA av' fr' gA := fun f ρ σ H Q r q => h f ρ σ H Q r <| by
  cases e : gA ρ with
  | bad => rw [e] at q; exact q.elim
  | ex z => rw [e] at q; exact q.elim
  | ok d => rw [e] at q; exact fun v H' s x => q v H' s (x.weak fun _ y => y.weak h1 h2)
theorem sx_cb {r : List V → Hp → VK → Prop} {h : List Dt → O Dt} (hs : SclA h) (ho : CSc K r h) (ha : SXA K Δ tA av fr gA) : SX K Δ (tCB r tA) (.v true true) (xCB h gA) := fun f ρ σ H Q R q => by
  refine ha f ρ σ H _ R ?_
  unfold xCB at q
  obtain ⟨⟨ds, ρ1⟩, e1, q⟩ := bnd_inv' (P := fun o => PoX K f Δ σ (.v true true) o Q) id (fun _ => id) q
  rw [e1]
  intro vs H1 R1 x1
  have q : PoX K f Δ σ (.v true true) (bnd (h ds) fun z => .ok (z, ρ1)) Q := q
  refine ho H1 vs ds Q (x1.weak fun _ _ => trivial) ?_
  rcases hs ds with ⟨z, ez, sz⟩ | ez
  · rw [ez] at q ⊢
    exact ⟨sz, fun w x => q w H1 R1 (x.scl_any sz)⟩
  · rw [ez] at q
    exact q.elim
theorem sx_tup (ha : SXA K Δ tA av fr gA) : SX K Δ (tTup tA) (.v av fr) (xTup gA) := fun f ρ σ H Q R q => by
  refine ha f ρ σ H _ R ?_
  unfold xTup at q
  obtain ⟨⟨ds, ρ1⟩, e1, q⟩ := bnd_inv' (P := fun o => PoX K f Δ σ (.v av fr) o Q) id (fun _ => id) q
  rw [e1]
  intro vs H1 R1 x1
  simp only at q
  by_cases l : ds.length ≤ 100000
  · rw [if_pos l] at q
    exact ⟨by rw [x1.length]; exact sz_le l, fun p np => q _ _ (R1.mono (same_upd np)) (.tup (.inl (.inl upd_same)) (x1.same (same_upd np)))⟩
  · rw [if_neg l] at q
    exact q.elim
theorem sx_lst (ha : SXA K Δ tA true fr gA) : SX K Δ (tLst tA) (.new .l fr) (xLst gA) := fun f ρ σ H Q R q => by
  refine ha f ρ σ H _ R ?_
  unfold xLst at q
  obtain ⟨⟨ds, ρ1⟩, e1, q⟩ := bnd_inv' (P := fun o => PoX K f Δ σ (.new .l fr) o Q) id (fun _ => id) q
  rw [e1]
  intro vs H1 R1 x1
  simp only at q
  by_cases l : ds.length ≤ 100000
  · rw [if_pos l] at q
    refine ⟨by rw [x1.length]; exact sz_le l, fun p np => ?_⟩
    obtain ⟨f1, f2, f3⟩ := R1.fresh np
    exact q p _ (R1.pinNew np (same_upd np) ⟨_, upd_same, trivial⟩) f2 f3 ⟨vs, ds, rfl, upd_same, x1.mono (same_upd np) fun a fa na => ⟨fun _ => ⟨(fa.1 rfl).1, fun z => by
      rcases List.mem_cons.mp z with e | h
      · exact na (e ▸ np)
      · exact (fa.1 rfl).2 h⟩, fa.2⟩⟩
  · rw [if_neg l] at q
    exact q.elim

/-! ### subscripts -/
theorem rix_of {F : Addr → Prop} {H : Hp} {v v2 : V} {d d2 z : Dt} {Q : VK} (x : Rp K F H v d) (x2 : Rp K (fun _ => True) H v2 d2) (h : hIx d d2 = .ok z) (q : ∀ w, Rp K F H w z → Q w H) : rIx K v v2 H Q := by
  unfold hIx at h
  split at h
  · split at h
    · rename_i z hz
      cases h
      obtain ⟨a, xs, rfl, hs, r⟩ := x.sql
      obtain ⟨w, hw, rw'⟩ := r.ixN hz
      rw [rpInt x2]
      exact .inl ⟨a, xs, _, w, rfl, rfl, hs, hw, q w rw'⟩
    · cases h
  · split at h
    · rename_i z hz
      cases h
      obtain ⟨a, xs, rfl, hs, r⟩ := x.sqt
      obtain ⟨w, hw, rw'⟩ := r.ixN hz
      rw [rpInt x2]
      exact .inr (.inl ⟨a, xs, _, w, rfl, rfl, hs, hw, q w rw'⟩)
    · cases h
  · split at h
    · rename_i hl
      split at h
      · rename_i c hc
        cases h
        rw [rpInt x2]
        cases x
        exact .inr (.inr ⟨_, _, c, rfl, rfl, sz_le hl, hc, q _ (.str _)⟩)
      · cases h
    · cases h
  · cases h
theorem sx_ix (ha : SX K Δ ta (.v true fr) ga) (hb : SX K Δ tb (.v av' fr') gb) : SX K Δ (tOp (rIx K) ta tb) (.v true fr) (xOp hIx ga gb) := fun f ρ σ H Q R q => by
  refine ha f ρ σ H _ R ?_
  unfold xOp at q
  obtain ⟨⟨d, ρ1⟩, e1, q⟩ := bnd_inv' (P := fun o => PoX K f Δ σ (.v true fr) o Q) id (fun _ => id) q
  rw [e1]
  intro v H1 R1 x1
  have R1' := R1.addG (fr := fr) (.cons x1 .nil)
  refine hb _ ρ1 σ H1 _ R1' ?_
  obtain ⟨⟨d2, ρ2⟩, e2, q⟩ := bnd_inv' (P := fun o => PoX K f Δ σ (.v true fr) o Q) id (fun _ => id) q
  have e2 : gb ρ1 = _ := e2
  rw [e2]
  intro v2 H2 R2 x2
  have x1' : Rp K (FM f Δ σ true fr) H2 v d := by
    cases R2.gh _ List.mem_cons_self with
    | cons h _ => exact h
  obtain ⟨z, ez, q⟩ := bnd_inv' (P := fun o => PoX K f Δ σ (.v true fr) o Q) id (fun _ => id) q
  exact rix_of x1' (x2.weak fun _ _ => trivial) ez fun w y => q w H2 R2.dropG y
/-- a subscript of a list of one's own -/
theorem sx_ixO (hk : Δ[i]? = some (.own .l fr)) (hb : SX K Δ tb (.v av' fr') gb) : SX K Δ (tOp (rIx K) (tVar i) tb) (.v true fr) (xIxO i gb) := fun f ρ σ H Q R q => by
  obtain ⟨p, d0, h1, _, _, _⟩ := R.ow i .l fr hk
  refine ⟨_, h1, hb f ρ σ H _ R ?_⟩
  unfold xIxO at q
  obtain ⟨⟨d2, ρ2⟩, e2, q⟩ := bnd_inv' (P := fun o => PoX K f Δ σ (.v true fr) o Q) id (fun _ => id) q
  rw [e2]
  intro v2 H2 R2 x2
  obtain ⟨p', d, h1', h2, h3, vs, ds, ed, h4, h5⟩ := R2.ow i .l fr hk
  rw [h1] at h1'
  cases h1'
  subst ed
  simp only [h2] at q
  obtain ⟨z, ez, q2⟩ := bnd_inv' (P := fun o => PoX K f Δ σ (.v true fr) o Q) id (fun _ => id) q
  clear q
  unfold hIx at ez
  cases d2 with
  | int i' =>
    simp only at ez
    cases ea : L2.atI ds i' with
    | none => rw [ea] at ez; cases ez
    | some z' =>
      rw [ea] at ez
      cases ez
      obtain ⟨w, hw, rw'⟩ := h5.ixN ea
      rw [rpInt x2]
      exact .inl ⟨p, vs, _, w, rfl, rfl, .inl (.inl h4), hw, q2 w H2 R2 rw'⟩
  | _ => cases ez

/-! ### tests -/
theorem sxt_test (ha : SX K Δ te (.v av fr) gx) : SXT K Δ (tTest te) (xTest gx) := fun f ρ σ H Q R q => by
  refine ha f ρ σ H _ R ?_
  unfold xTest at q
  obtain ⟨⟨d, ρ1⟩, e1, q⟩ := bnd_inv' (P := fun o => PoXT K f Δ σ o Q) id (fun _ => id) q
  rw [e1]
  intro v H1 R1 x1
  obtain ⟨b, eb, q⟩ := bnd_inv' (P := fun o => PoXT K f Δ σ o Q) id (fun _ => id) q
  cases d with
  | bool b' =>
    cases eb
    cases x1
    exact ⟨b, rfl, q H1 R1⟩
  | _ => cases eb
theorem sxt_not (h : SXT K Δ tt gt) : SXT K Δ (tNot tt) (xNot gt) := fun f ρ σ H Q R q => by
  refine h f ρ σ H _ R ?_
  unfold xNot at q
  obtain ⟨⟨b, ρ1⟩, e1, q⟩ := bnd_inv' (P := fun o => PoXT K f Δ σ o Q) id (fun _ => id) q
  rw [e1]
  exact q
theorem sxt_and (h : SXT K Δ tt gt) (h2 : SXT K Δ tu gu) : SXT K Δ (tAnd tt tu) (xAnd gt gu) := fun f ρ σ H Q R q => by
  refine h f ρ σ H _ R ?_
  unfold xAnd at q
  obtain ⟨⟨b, ρ1⟩, e1, q⟩ := bnd_inv' (P := fun o => PoXT K f Δ σ o Q) id (fun _ => id) q
  rw [e1]
  intro H1 R1
  cases b with
  | false => exact q H1 R1
  | true => exact h2 f ρ1 σ H1 Q R1 q
theorem sxt_or (h : SXT K Δ tt gt) (h2 : SXT K Δ tu gu) : SXT K Δ (tOr tt tu) (xOr gt gu) := fun f ρ σ H Q R q => by
  refine h f ρ σ H _ R ?_
  unfold xOr at q
  obtain ⟨⟨b, ρ1⟩, e1, q⟩ := bnd_inv' (P := fun o => PoXT K f Δ σ o Q) id (fun _ => id) q
  rw [e1]
  intro H1 R1
  cases b with
  | true => exact q H1 R1
  | false => exact h2 f ρ1 σ H1 Q R1 q

/-! ### calls -/
theorem sx_callN {mg : Str → Option Value} {n : Nat} {g : List Dt → O Dt} (h : SXA K Δ tA av fr gA) : SX K Δ (tCall (spG K mg n g) [] E0 tA) (.v true true) (xCallN n g gA) := fun f ρ σ H Q r q => h f ρ σ H _ r <| by
  unfold xCallN at q
  obtain ⟨⟨ds, ρ1⟩, e1, q⟩ := bnd_inv' (P := fun o => PoX K f Δ σ (.v true true) o Q) id (fun _ => id) q
  rw [e1]
  intro vs H1 r1 x1
  simp only at q
  by_cases hn : ds.length = n
  · rw [if_pos hn] at q
    rw [List.append_nil]
    refine ⟨ds, by rw [x1.length]; exact hn, x1.weak fun _ _ => trivial, ?_⟩
    cases e2 : g ds with
    | bad => rw [e2] at q; exact q.elim
    | ex z => rw [e2] at q; exact q.elim
    | ok d =>
      rw [e2] at q
      intro v H2 s2 x2
      refine q v H2 (r1.mono s2) (x2.weak fun a na => ?_)
      obtain ⟨f1, f2, f3⟩ := r1.fresh na
      exact ⟨fun _ => ⟨f1, f2⟩, fun _ => r1.g0 a f3⟩
  · rw [if_neg hn] at q
    exact q.elim
theorem sx_callL {mg : Str → Option Value} {n : Nat} {g : List Dt → O Dt} (h : SXA K Δ tA av fr gA) : SX K Δ (tCall (spL K mg n g) [] E0 tA) (.new .l true) (xCallN n g gA) := fun f ρ σ H Q r q => h f ρ σ H _ r <| by
  unfold xCallN at q
  obtain ⟨⟨ds, ρ1⟩, e1, q⟩ := bnd_inv' (P := fun o => PoX K f Δ σ (.new .l true) o Q) id (fun _ => id) q
  rw [e1]
  intro vs H1 r1 x1
  simp only at q
  by_cases hn : ds.length = n
  · rw [if_pos hn] at q
    rw [List.append_nil]
    refine ⟨ds, by rw [x1.length]; exact hn, x1.weak fun _ _ => trivial, ?_⟩
    cases e2 : g ds with
    | bad => rw [e2] at q; exact q.elim
    | ex z => rw [e2] at q; exact q.elim
    | ok d =>
      rw [e2] at q
      intro p H2 np s2 x2
      obtain ⟨f1, f2, f3⟩ := r1.fresh np
      refine q p H2 (r1.pinNew np s2 x2.mutb) f2 f3 (x2.map (fun _ e => e) fun _ _ y => y.weak fun a na => ?_)
      obtain ⟨g1, g2, g3⟩ := r1.fresh na.1
      exact ⟨fun _ => ⟨g1, fun z => by
        rcases List.mem_cons.mp z with z | z
        · exact na.2 z
        · exact g2 z⟩, fun _ => r1.g0 a g3⟩
  · rw [if_neg hn] at q
    exact q.elim
theorem sx_callA {mg : Str → Option Value} {n : Nat} {g : List Dt → O Dt} (h : SXA K Δ tA av fr gA) : SX K Δ (tCall (spA K mg n g) [] E0 tA) (.v av fr) (xCallN n g gA) := fun f ρ σ H Q r q => h f ρ σ H _ r <| by
  unfold xCallN at q
  obtain ⟨⟨ds, ρ1⟩, e1, q⟩ := bnd_inv' (P := fun o => PoX K f Δ σ (.v av fr) o Q) id (fun _ => id) q
  rw [e1]
  intro vs H1 r1 x1
  simp only at q
  by_cases hn : ds.length = n
  · rw [if_pos hn] at q
    rw [List.append_nil]
    refine ⟨ds, _, by rw [x1.length]; exact hn, x1, ?_⟩
    cases e2 : g ds with
    | bad => rw [e2] at q; exact q.elim
    | ex z => rw [e2] at q; exact q.elim
    | ok d =>
      rw [e2] at q
      intro v H2 s2 x2
      refine q v H2 (r1.mono s2) (x2.weak fun a na => ?_)
      rcases na with na | na
      · exact na
      · obtain ⟨f1, f2, f3⟩ := r1.fresh na
        exact ⟨fun _ => ⟨f1, f2⟩, fun _ => r1.g0 a f3⟩
  · rw [if_neg hn] at q
    exact q.elim
/-- what stands at an argument's place, kind c -/
def argOf : Ct → Ct
  | .l => .la
  | .dk => .ka
  | c => c
/-- a def that changes its first argument; it tells a value of new things -/
def spM (K : PySem.W.Frag) (c : Ct) (n : Nat) (g : List Dt → O Dt) : Sp := fun vs H Q _ => ∃ a vs' d ds', vs = .ref a :: vs' ∧ vs.length = n ∧ argK c d = true ∧ ArgAt K H a d ∧ RpA K (fun b => b ≠ a) H vs' ds' ∧ (match g (d :: ds') with
  | .ok (.tuple [r, e]) => ∀ v H', (∀ b o, b ≠ a → H b = some o → H' b = some o) → ArgAt K H' a e → Rp K (fun b => H b = none) H' v r → Q v H'
  | _ => False)
/-- .. a new list -/
def spML (K : PySem.W.Frag) (c : Ct) (n : Nat) (g : List Dt → O Dt) : Sp := fun vs H Q _ => ∃ a vs' d ds', vs = .ref a :: vs' ∧ vs.length = n ∧ argK c d = true ∧ ArgAt K H a d ∧ RpA K (fun b => b ≠ a) H vs' ds' ∧ (match g (d :: ds') with
  | .ok (.tuple [r, e]) => ∀ p H', p ≠ a → H p = none → (∀ b o, b ≠ a → H b = some o → H' b = some o) → ArgAt K H' a e → OwC K .l (fun b => H b = none ∧ b ≠ p) H' p r → Q (.ref p) H'
  | _ => False)
theorem argAt_of {c c' : Ct} {F : Addr → Prop} {H : Hp} {p : Addr} {d : Dt} (hc : argOf c' = c) (h : OwC K c' F H p d) (ha : argK c d = true) : ArgAt K H p d := by
  subst hc
  cases c' with
  | l => obtain ⟨vs, ds, rfl, h1, h2⟩ := h; exact ⟨ha, vs, h1, sclA_any h2 ha⟩
  | la => obtain ⟨vs, ds, rfl, h1, h2⟩ := h; exact ⟨ha, vs, h1, sclA_any h2 ha⟩
  | dk => obtain ⟨vs, ds, rfl, h1, h2⟩ := h; exact ⟨ha, vs, h1, sclV_any h2 ha⟩
  | ka => obtain ⟨vs, ds, rfl, h1, h2⟩ := h; exact ⟨ha, vs, h1, sclV_any h2 ha⟩
  | dt => cases ha
theorem owC_of {c c' : Ct} {F : Addr → Prop} {H : Hp} {p : Addr} {d : Dt} (hc : argOf c' = c) (h : ArgAt K H p d) (ha : argK c d = true) : ∃ o, H p = some o ∧ Mutb o ∧ ∀ H2 : Hp, H2 p = some o → OwC K c' F H2 p d := by
  subst hc
  cases c' with
  | l => cases d with
    | list es => obtain ⟨s, ws, h1, h2⟩ := h; exact ⟨_, h1, trivial, fun H2 e => ⟨ws, es, rfl, e, sclA_any h2 s⟩⟩
    | _ => cases ha
  | la => cases d with
    | list es => obtain ⟨s, ws, h1, h2⟩ := h; exact ⟨_, h1, trivial, fun H2 e => ⟨ws, es, rfl, e, sclA_any h2 s⟩⟩
    | _ => cases ha
  | dk => cases d with
    | dict es => obtain ⟨s, ws, h1, h2⟩ := h; exact ⟨_, h1, trivial, fun H2 e => ⟨ws, es, rfl, e, sclV_any h2 s⟩⟩
    | _ => cases ha
  | ka => cases d with
    | dict es => obtain ⟨s, ws, h1, h2⟩ := h; exact ⟨_, h1, trivial, fun H2 e => ⟨ws, es, rfl, e, sclV_any h2 s⟩⟩
    | _ => cases ha
  | dt => cases ha
/-- the state behind a call that changed slot i's own -/
theorem R.argNew {f : Fm} {ρ : List Dt} {σ : L2.St} {H H' : Hp} {c c' : Ct} {p : Addr} {e : Dt} (r : R K f Δ ρ σ H) (hk : Δ[i]? = some (.own c' fr)) (hs : σ[i]? = some (some (V.ref p))) (hc : argOf c' = c) (keep : ∀ b o, b ≠ p → H b = some o → H' b = some o) (h : ArgAt K H' p e) (ha : argK c e = true) :
    R K f Δ (ρ.set i e) σ H' := by
  obtain ⟨o, ho, mo, hw⟩ := owC_of (F := FM f Δ σ true fr) hc h ha
  have r1 := r.updOwn (o' := o) hk hs mo (fr' := fr) (c' := c') (hw _ upd_same) (fun h => h)
  have eΔ : Δ.set i (.own c' fr) = Δ := by
    apply List.ext_getElem?
    intro j
    by_cases z : i = j
    · subst z
      rw [List.getElem?_set_self (List.getElem?_eq_some_iff.mp hk).1, hk]
    · rw [List.getElem?_set_ne z]
  rw [eΔ] at r1
  refine r1.mono fun b u e => ?_
  by_cases z : b = p
  · subst z
    rw [upd_same] at e
    cases e
    exact ho
  · rw [upd_ne z] at e
    exact keep b u z e
/-! arguments that are not slot i's own: values, and other names' own lists -/
def PoB (K : PySem.W.Frag) (σ : L2.St) (i : Nat) (H : Hp) (o : O (List Dt)) (Q : List V → Hp → Prop) : Prop := match o with
  | .ok ds => ∀ vs H', Same H H' → RpA K (fun b => σ[i]? ≠ some (some (V.ref b))) H' vs ds → Q vs H'
  | _ => False
def SB (K : PySem.W.Frag) (Δ : List Kd) (i : Nat) (ta : TA) (g : List Dt → O (List Dt)) : Prop := ∀ f ρ σ H Q, R K f Δ ρ σ H → PoB K σ i H (g ρ) Q → ta σ H Q
def PoXB (K : PySem.W.Frag) (f : Fm) (Δ : List Kd) (σ : L2.St) (i : Nat) (o : O (List Dt × List Dt)) (Q : List V → Hp → Prop) : Prop := match o with
  | .ok (ds, ρ') => ∀ vs H', R K f Δ ρ' σ H' → RpA K (fun b => σ[i]? ≠ some (some (V.ref b))) H' vs ds → Q vs H'
  | _ => False
def SXB (K : PySem.W.Frag) (Δ : List Kd) (i : Nat) (ta : TA) (g : List Dt → O (List Dt × List Dt)) : Prop := ∀ f ρ σ H Q, R K f Δ ρ σ H → PoXB K f Δ σ i (g ρ) Q → ta σ H Q
theorem sb_nil : SB K Δ i tNil gNil := fun f ρ σ H Q R q => q [] H (Same.refl H) .nil
theorem sb_cons {ga : Gd} {gA : List Dt → O (List Dt)} {c' : Ct} (hk : Δ[i]? = some (.own c' fr')) (ha : SE K W0 Δ ta (.v true fr) ga) (hr : SB K Δ i tA gA) : SB K Δ i (tCons ta tA) (gCons ga gA) := fun f ρ σ H Q R q => by
  refine ha f ρ σ H _ R ?_
  unfold gCons at q
  obtain ⟨d, e1, q⟩ := bnd_inv' (P := fun o => PoB K σ i H o Q) id (fun _ => id) q
  rw [e1]
  intro v H1 s1 x1
  refine hr f ρ σ H1 _ (R.mono s1) ?_
  obtain ⟨ds, e2, q⟩ := bnd_inv' (P := fun o => PoB K σ i H o Q) id (fun _ => id) q
  rw [e2]
  intro vs H2 s2 x2
  exact q (v :: vs) H2 (s1.trans s2) (.cons ((x1.same s2).weak fun a fa z => (fa.1 rfl).1 ⟨i, c', fr', hk, z⟩) x2)
theorem sb_own {gA : List Dt → O (List Dt)} {c' : Ct} {j : Nat} (hj : Δ[j]? = some (.own .l fr)) (hk : Δ[i]? = some (.own c' fr')) (hij : i ≠ j) (hr : SB K Δ i tA gA) : SB K Δ i (tCons (tVar j) tA) (gCons (gVar j) gA) := fun f ρ σ H Q R q => by
  obtain ⟨p, d, h1, h2, h3, vs0, ds0, ed, h4, h5⟩ := R.ow j .l fr hj
  refine ⟨_, h1, ?_⟩
  unfold gCons gVar at q
  rw [h2, bnd_ok] at q
  refine hr f ρ σ H _ R ?_
  obtain ⟨ds, e2, q⟩ := bnd_inv' (P := fun o => PoB K σ i H o Q) id (fun _ => id) q
  rw [e2]
  intro vs H2 s2 x2
  subst ed
  refine q _ H2 s2 (.cons (.lst (s2 _ _ h4) (fun z => hij (R.inj i j _ _ _ _ p hk hj z h1)) ((h5.same s2).weak fun a fa z => (fa.1 rfl).1 ⟨i, c', fr', hk, z⟩)) x2)
theorem sxb_of {gA : List Dt → O (List Dt)} (h : SB K Δ i tA gA) : SXB K Δ i tA (xPA gA) := fun f ρ σ H Q r q => h f ρ σ H Q r <| by
  unfold xPA at q
  cases e : gA ρ with
  | bad => rw [e] at q; exact q.elim
  | ex z => rw [e] at q; exact q.elim
  | ok d => rw [e] at q; exact fun v H' s x => q v H' (r.mono s) x
theorem sxb_a {c' : Ct} (hk : Δ[i]? = some (.own c' fr')) (h : SXA K Δ tA true fr gA) : SXB K Δ i tA gA := fun f ρ σ H Q r q => h f ρ σ H Q r <| by
  cases e : gA ρ with
  | bad => rw [e] at q; exact q.elim
  | ex z => rw [e] at q; exact q.elim
  | ok d => rw [e] at q; exact fun v H' r' x => q v H' r' (x.weak fun a fa z => (fa.1 rfl).1 ⟨i, c', fr', hk, z⟩)
theorem sx_callM {c c' : Ct} {n : Nat} {g : List Dt → O Dt} (hk : Δ[i]? = some (.own c' fr')) (hc : argOf c' = c) (h : SXB K Δ i tA gA) : SX K Δ (tCall (spM K c n g) [] E0 (tCons (tVar i) tA)) (.v true true) (xCallM c n g i gA) := fun f ρ σ H Q r q => by
  obtain ⟨p, d0, h1, _, _, _⟩ := r.ow i c' fr' hk
  refine ⟨_, h1, h f ρ σ H _ r ?_⟩
  unfold xCallM at q
  obtain ⟨⟨ds, ρ1⟩, e1, q⟩ := bnd_inv' (P := fun o => PoX K f Δ σ (.v true true) o Q) id (fun _ => id) q
  rw [e1]
  intro vs H1 r1 x1
  obtain ⟨p', d, h1', h2, h3, h4⟩ := r1.ow i c' fr' hk
  rw [h1] at h1'
  cases h1'
  simp only at q
  by_cases hn : ds.length + 1 = n
  · rw [if_pos hn, h2] at q
    simp only at q
    by_cases ha : argK c d = true
    · rw [if_pos ha] at q
      rw [List.append_nil]
      refine ⟨p, vs, d, ds, rfl, by rw [List.length_cons, x1.length]; exact hn, ha, argAt_of hc h4 ha, x1.weak fun b fb z => fb (z ▸ h1), ?_⟩
      cases e2 : g (d :: ds) with
      | bad => rw [e2] at q; exact q.elim
      | ex z => rw [e2] at q; exact q.elim
      | ok z =>
        rw [e2] at q
        split at q
        · rename_i r' e ez
          cases ez
          by_cases hae : argK c e = true
          · rw [if_pos hae] at q
            intro v H' keep arg x2
            refine q v H' (r1.argNew hk h1 hc keep arg hae) (x2.weak fun b nb => ?_)
            obtain ⟨f1, f2, f3⟩ := r1.fresh nb
            exact ⟨fun _ => ⟨f1, f2⟩, fun _ => r1.g0 b f3⟩
          · rw [if_neg hae] at q
            exact q.elim
        · exact q.elim
    · rw [if_neg ha] at q
      exact q.elim
  · rw [if_neg hn] at q
    exact q.elim
theorem sx_callML {c c' : Ct} {n : Nat} {g : List Dt → O Dt} (hk : Δ[i]? = some (.own c' fr')) (hc : argOf c' = c) (h : SXB K Δ i tA gA) : SX K Δ (tCall (spML K c n g) [] E0 (tCons (tVar i) tA)) (.new .l true) (xCallM c n g i gA) := fun f ρ σ H Q r q => by
  obtain ⟨p, d0, h1, _, _, _⟩ := r.ow i c' fr' hk
  refine ⟨_, h1, h f ρ σ H _ r ?_⟩
  unfold xCallM at q
  obtain ⟨⟨ds, ρ1⟩, e1, q⟩ := bnd_inv' (P := fun o => PoX K f Δ σ (.new .l true) o Q) id (fun _ => id) q
  rw [e1]
  intro vs H1 r1 x1
  obtain ⟨p', d, h1', h2, h3, h4⟩ := r1.ow i c' fr' hk
  rw [h1] at h1'
  cases h1'
  simp only at q
  by_cases hn : ds.length + 1 = n
  · rw [if_pos hn, h2] at q
    simp only at q
    by_cases ha : argK c d = true
    · rw [if_pos ha] at q
      rw [List.append_nil]
      refine ⟨p, vs, d, ds, rfl, by rw [List.length_cons, x1.length]; exact hn, ha, argAt_of hc h4 ha, x1.weak fun b fb z => fb (z ▸ h1), ?_⟩
      cases e2 : g (d :: ds) with
      | bad => rw [e2] at q; exact q.elim
      | ex z => rw [e2] at q; exact q.elim
      | ok z =>
        rw [e2] at q
        split at q
        · rename_i r' e ez
          cases ez
          by_cases hae : argK c e = true
          · rw [if_pos hae] at q
            intro l H' nla nl keep arg x2
            obtain ⟨f1, f2, f3⟩ := r1.fresh nl
            -- the state without the new list, then with it
            obtain ⟨o, ho, mo, hw⟩ := owC_of (F := FM f Δ σ true fr') hc arg hae
            have nlp : l ≠ p := nla
            have r2 : R K f Δ (ρ1.set i e) σ (upd H1 p o) := r1.argNew hk h1 hc (fun b u nb eb => by rw [upd_ne nb]; exact eb) (by
              cases e with
              | list es => obtain ⟨s, ws, w1, w2⟩ := arg; rw [ho] at w1; cases w1; exact ⟨s, ws, upd_same, sclA_any w2 s⟩
              | dict es => obtain ⟨s, ws, w1, w2⟩ := arg; rw [ho] at w1; cases w1; exact ⟨s, ws, upd_same, sclV_any w2 s⟩
              | _ => exact arg.elim) hae
            have s2 : Same (upd H1 p o) H' := fun b u eb => by
              by_cases z : b = p
              · subst z
                rw [upd_same] at eb
                cases eb
                exact ho
              · rw [upd_ne z] at eb
                exact keep b u z eb
            refine q l H' (r2.pinNew (by rw [upd_ne nlp]; exact nl) s2 x2.mutb) f2 f3 (x2.map (fun _ e => e) fun _ _ y => y.weak fun b nb => ?_)
            obtain ⟨g1, g2, g3⟩ := r1.fresh nb.1
            exact ⟨fun _ => ⟨g1, fun z => by
              rcases List.mem_cons.mp z with z | z
              · exact nb.2 z
              · exact g2 z⟩, fun _ => r1.g0 b g3⟩
          · rw [if_neg hae] at q
            exact q.elim
        · exact q.elim
    · rw [if_neg ha] at q
      exact q.elim
  · rw [if_neg hn] at q
    exact q.elim

/-! ### statements -/
theorem bx_inv {α β : Type} {x : O α} {k : α → O β} {P : O β → Prop} (hb : ¬ P .bad) (h : P (bx x k)) : ∃ a, x = .ok a ∧ P (k a) := by
  cases x with
  | bad => exact (hb h).elim
  | ex e => exact (hb h).elim
  | ok a => exact ⟨a, rfl, h⟩
theorem s_setX (hi : i < Δ.length) (h : SX K Δ te (.v true fr) gx) : SS K W L Δ (Δ.set i (.im fr)) Δb Δc (tAsg te (gName i)) (xSet i gx) := fun f ρ σ H E r q => h f ρ σ H _ r <| by
  obtain ⟨⟨d, ρ1⟩, e1, q⟩ := bx_inv (P := fun o => PoS K W L f _ Δb Δc o E) id q
  rw [e1]
  exact fun v H' r' x => q _ H' (r'.setIm hi x)
theorem s_setOX {c : Ct} (hi : i < Δ.length) (h : SX K Δ te (.new c fr) gx) (hc : isArg c = false := by rfl) : SS K W L Δ (Δ.set i (.own c fr)) Δb Δc (tAsg te (gName i)) (xSet i gx) := fun f ρ σ H E r q => h f ρ σ H _ r <| by
  obtain ⟨⟨d, ρ1⟩, e1, q⟩ := bx_inv (P := fun o => PoS K W L f _ Δb Δc o E) id q
  rw [e1]
  exact fun p H' r' hP h0 x => q _ H' (r'.setOwnP hi h0 hP x hc)
theorem s_asgX {gg : TG} {sl : List Nat} {n : Nat} {hh : Dt → List Dt → O (List Dt)} {TK : Bool → List Kd → List Kd} (hn : Δ.length = n) (h : SX K Δ te (.v true fr) gx) (hg : GJ K n gg sl hh TK) : SS K W L Δ (TK fr Δ) Δb Δc (tAsg te gg) (xAsg gx hh) := fun f ρ σ H E r q => h f ρ σ H _ r <| by
  obtain ⟨⟨d, ρ1⟩, e1, q⟩ := bx_inv (P := fun o => PoS K W L f _ Δb Δc o E) id q
  rw [e1]
  intro v H' r' x
  refine hg f Δ ρ1 σ H' v d fr _ hn r' x ?_
  simp only at q
  cases e2 : hh d ρ1 with
  | bad => rw [e2] at q; exact q.elim
  | ex z => rw [e2] at q; exact q.elim
  | ok ρ' =>
    rw [e2] at q
    exact fun σ' t => q σ' H' t.r
theorem s_dropX (h : SX K Δ te (.v av fr) gx) : SS K W L Δ Δ Δb Δc (tDrop te) (xDrop gx) := fun f ρ σ H E r q => h f ρ σ H _ r <| by
  obtain ⟨⟨d, ρ1⟩, e1, q⟩ := bx_inv (P := fun o => PoS K W L f _ Δb Δc o E) id q
  rw [e1]
  exact fun v H' r' x => q σ H' r'
theorem s_ifX (h : SXT K Δ tt gt) (h1 : SS K W L Δ Δn Δb Δc t g1) (h2 : SS K W L Δ Δn Δb Δc u g2) : SS K W L Δ Δn Δb Δc (tIfS tt t u) (xIfS gt g1 g2) := fun f ρ σ H E r q => h f ρ σ H _ r <| by
  obtain ⟨⟨b, ρ1⟩, e1, q⟩ := bx_inv (P := fun o => PoS K W L f _ Δb Δc o E) id q
  rw [e1]
  intro H1 r1
  cases b with
  | true => exact h1 f ρ1 σ H1 E r1 q
  | false => exact h2 f ρ1 σ H1 E r1 q
theorem s_retX (h : SX K Δ te (.v av true) gx) : SS K W .n Δ Δn Δb Δc (tRet te) (xRet gx) := fun f ρ σ H E r q => h f ρ σ H _ r <| by
  obtain ⟨⟨d, ρ1⟩, e1, q⟩ := bx_inv (P := fun o => PoS K W .n f _ Δb Δc o E) id q
  rw [e1]
  exact fun v H' r' x => q v H' r'.ext (x.weak fun a fa => fa.2 rfl)
theorem argAt_ow {c : Ct} {F : Addr → Prop} {H : Hp} {p : Addr} {e : Dt} (hc : isArg c = true) (h : OwC K c F H p e) (ha : argD e = true) : ArgAt K H p e := by
  cases c with
  | la => obtain ⟨vs, ds, rfl, h1, h2⟩ := h; exact ⟨ha, vs, h1, sclA_any h2 ha⟩
  | ka => obtain ⟨vs, ds, rfl, h1, h2⟩ := h; exact ⟨ha, vs, h1, sclV_any h2 ha⟩
  | _ => cases hc
theorem s_retM {c : Ct} {fr0 : Bool} (hk : Δ[0]? = some (.own c fr0)) (hc : isArg c = true) (h : SX K Δ te (.v true true) gx) : SS K W .m Δ Δn Δb Δc (tRet te) (xRetM gx) := fun f ρ σ H E r q => h f ρ σ H _ r <| by
  obtain ⟨⟨d, ρ1⟩, e1, q⟩ := bx_inv (P := fun o => PoS K W .m f _ Δb Δc o E) id q
  rw [e1]
  intro v H' r' x
  obtain ⟨p, hA, hs⟩ := r'.ar 0 c fr0 hk hc
  obtain ⟨p', e, hs', h2, h3, h4⟩ := r'.ow 0 c fr0 hk
  rw [hs] at hs'
  cases hs'
  simp only [h2] at q
  by_cases ha : argD e = true
  · rw [if_pos ha] at q
    unfold PoS at q
    simp only [hA] at q
    refine q v H' r'.ext ?_ (x.weak fun a fa => ⟨fa.2 rfl, fun z => (fa.1 rfl).1 (z ▸ ⟨0, c, fr0, hk, hs⟩)⟩)
    exact argAt_ow hc h4 ha
  · rw [if_neg ha] at q
    exact q.elim
theorem s_retML {c : Ct} {fr0 : Bool} (hk : Δ[0]? = some (.own c fr0)) (hc : isArg c = true) (h : SX K Δ te (.new .l true) gx) : SS K W .ml Δ Δn Δb Δc (tRet te) (xRetM gx) := fun f ρ σ H E r q => h f ρ σ H _ r <| by
  obtain ⟨⟨d, ρ1⟩, e1, q⟩ := bx_inv (P := fun o => PoS K W .ml f _ Δb Δc o E) id q
  rw [e1]
  intro l H' r' hP h0 x
  obtain ⟨p, hA, hs⟩ := r'.ar 0 c fr0 hk hc
  obtain ⟨p', e, hs', h2, h3, h4⟩ := r'.ow 0 c fr0 hk
  rw [hs] at hs'
  cases hs'
  have no := (r'.pin l List.mem_cons_self).2
  simp only [h2] at q
  by_cases ha : argD e = true
  · rw [if_pos ha] at q
    unfold PoS at q
    have hA' : f.A = some p := hA
    simp only [hA'] at q
    refine q l H' (fun z => no (z ▸ ⟨0, c, fr0, hk, hs⟩)) h0 r'.ext ?_ (x.map (fun _ e => e) fun _ _ y => y.weak fun a fa => ⟨⟨fa.2 rfl, fun z => (fa.1 rfl).1 (z ▸ ⟨0, c, fr0, hk, hs⟩)⟩, fun z => (fa.1 rfl).2 (z ▸ List.mem_cons_self)⟩)
    exact argAt_ow hc h4 ha
  · rw [if_neg ha] at q
    exact q.elim
/-- return of an owned name -/
def xRetMO (i : Nat) : Gs := fun ρ => match ρ[i]?, ρ[0]? with
  | some d, some e => if argD e then .ok (.rt (.tuple [d, e])) else .bad
  | _, _ => .bad
theorem s_retMO {c : Ct} {fr0 : Bool} (hk : Δ[0]? = some (.own c fr0)) (hc : isArg c = true) (hi : Δ[i]? = some (.own .l true)) : SS K W .ml Δ Δn Δb Δc (tRet (tVar i)) (xRetMO i) := fun f ρ σ H E r q => by
  obtain ⟨p, hA, hs⟩ := r.ar 0 c fr0 hk hc
  obtain ⟨p', e, hs', h2, h3, h4⟩ := r.ow 0 c fr0 hk
  rw [hs] at hs'
  cases hs'
  obtain ⟨l, d, g1, g2, g3, g4⟩ := r.ow i .l true hi
  have n0 : i ≠ 0 := fun z => by
    subst z
    rw [hk] at hi
    cases hi
    cases hc
  have nl : l ≠ p := fun z => n0 (r.inj i 0 _ _ _ _ p hi hk (z ▸ g1) hs)
  unfold xRetMO at q
  simp only [g2, h2] at q
  by_cases ha : argD e = true
  · rw [if_pos ha] at q
    unfold PoS at q
    simp only [hA] at q
    refine ⟨_, g1, q l H nl g3 r.ext ?_ (g4.map (fun _ e => e) fun _ _ y => y.weak fun a fa => ⟨⟨fa.2 rfl, fun z => (fa.1 rfl).1 (z ▸ ⟨0, c, fr0, hk, hs⟩)⟩, fun z => (fa.1 rfl).1 (z ▸ ⟨i, .l, true, hi, g1⟩)⟩)⟩
    exact argAt_ow hc h4 ha
  · rw [if_neg ha] at q
    exact q.elim
theorem s_appX (hk : Δ[i]? = some (.own .l fr)) (h : SX K Δ te (.v true fr') gx) : SS K W L Δ (Δ.set i (.own .l (fr && fr'))) Δb Δc (tDrop (tBM K "list" rAppend (tVar i) (tCons te tNil))) (xApp i gx) := fun f ρ σ H E r q => by
  obtain ⟨p, d0, h1, h2, h3, vs, ds, ed, h4, h5⟩ := r.ow i .l fr hk
  refine ⟨_, h1, .inl ⟨rfl, _, .inl (.inl h4)⟩, h f ρ σ H _ r ?_⟩
  obtain ⟨⟨d, ρ1⟩, e1, q⟩ := bx_inv (P := fun o => PoS K W L f _ Δb Δc o E) id q
  rw [e1]
  intro v H1 r1 x
  obtain ⟨p', d0', h1', h2', h3', vs', ds', ed', h4', h5'⟩ := r1.ow i .l fr hk
  rw [h1] at h1'
  cases h1'
  subst ed'
  simp only [h2'] at q
  by_cases hl : ds'.length < 100000
  · rw [if_pos hl] at q
    have hl2 : vs'.length < sizeLine := by rw [h5'.length]; exact Nat.lt_of_lt_of_le hl (by decide)
    refine ⟨p, vs', v, rfl, rfl, h4', hl2, q σ _ ?_⟩
    refine r1.updOwn hk h1 (c' := .l) (show Mutb (.lst _) from trivial) ⟨_, _, rfl, upd_same, ?_⟩
    have nf : ∀ {fr : Bool} (a : Addr), FM f Δ σ true fr a → a ≠ p := fun a fa z => (fa.1 rfl).1 (z ▸ ⟨i, .l, _, hk, h1⟩)
    exact ((h5'.updM h4' trivial fun a fa => nf a fa).weak fun a y => y.weak id fun h => (Bool.and_eq_true_iff.mp h).1).append
      (.cons ((Rp.updM h4' trivial (fun a fa => nf a fa) x).weak fun a y => y.weak id fun h => (Bool.and_eq_true_iff.mp h).2) .nil)
  · rw [if_neg hl] at q
    exact q.elim
end
end Sim
end T_SimM

section T_SimN
set_option Elab.async false
set_option linter.all false
set_option maxRecDepth 100000
/-! SimN: walks, comprehensions, pop, defs of the effectful layer; the rules for a text. -/
namespace Sim
open PySem PySem.Spec L2
open PyProof.Rows hiding St

def xRng1 (g : List Dt → O (List Dt × List Dt)) : List Dt → O (List Dt × List Dt) := fun ρ => bx (g ρ) fun x => match rng1 x.1 with
  | some (lo, hi) => .ok (rangeD lo hi, x.2)
  | none => .bad
def clr : List Nat → List Dt → List Dt
  | [], ρ => ρ
  | v :: vs, ρ => (clr vs ρ).set v .none
def lcX (vs : List Nat) (h : Dt → List Dt → O (List Dt)) (gt : List Dt → O Bool) (ge : Gx) : List Dt → List Dt → O (List Dt × List Dt)
  | [], ρ => .ok ([], ρ)
  | d :: ds, ρ => bx (h d ρ) fun ρ' => bx (gt ρ') fun b => if b then bx (ge ρ') fun y => bx (lcX vs h gt ge ds (clr vs y.2)) fun z => .ok (y.1 :: z.1, z.2) else lcX vs h gt ge ds ρ
def xLc (vs : List Nat) (gi : List Dt → O (List Dt)) (h : Dt → List Dt → O (List Dt)) (gt : List Dt → O Bool) (ge : Gx) : Gx := fun ρ => bx (gi ρ) fun ds => if ds.length ≤ 100000 then bx (lcX vs h gt ge ds ρ) fun x => .ok (.list x.1, x.2) else .bad
def xPop (i : Nat) (g : Gx) : Gx := fun ρ => bx (g ρ) fun x => match x.1, x.2[i]? with
  | .int k, some (.list ds) => if -(2 ^ 63) ≤ k ∧ k < 2 ^ 63 then (match seqIndex? k ds.length with
    | some j => (match ds[j]? with
      | some d => .ok (d, x.2.set i (.list (ds.eraseIdx j)))
      | none => .bad)
    | none => .bad) else .bad
  | _, _ => .bad

theorem clr_len (ρ : List Dt) : ∀ vs, (clr vs ρ).length = ρ.length
  | [] => rfl
  | v :: vs => by unfold clr; rw [List.length_set, clr_len ρ vs]
theorem clr_out {ρ : List Dt} {i : Nat} : ∀ {vs : List Nat}, i ∉ vs → (clr vs ρ)[i]? = ρ[i]?
  | [], _ => rfl
  | v :: vs, h => by
    unfold clr
    rw [List.getElem?_set_ne (fun e => h (by rw [e]; exact List.mem_cons_self)), clr_out fun z => h (List.mem_cons_of_mem _ z)]
section
variable {K : PySem.W.Frag} {f : Fm} {Δ : List Kd} {ρ ρ' : List Dt} {σ σ' : L2.St} {H H' : Hp} {p : Addr} {d : Dt} {i : Nat}
theorem R.reno {vs : List Nat} (r : R K f Δ ρ σ H) (hv : ∀ i ∈ vs, ∀ k, Δ[i]? = some k → k = .no) (lσ : σ'.length = σ.length) (lρ : ρ'.length = ρ.length) (eσ : ∀ i, i ∉ vs → σ'[i]? = σ[i]?) (eρ : ∀ i, i ∉ vs → ρ'[i]? = ρ[i]?) : R K f Δ ρ' σ' H := by
  have out : ∀ {i : Nat} {k : Kd}, Δ[i]? = some k → k ≠ .no → i ∉ vs := fun {i k} h n z => n (hv i z k h)
  have ow' : ∀ a, Ow Δ σ' a → Ow Δ σ a := fun a ⟨i, c, fr, h1, h2⟩ => ⟨i, c, fr, h1, by rw [← eσ i (out h1 (fun z => nomatch z))]; exact h2⟩
  have key : ∀ {fr : Bool} {v : V} {d : Dt}, Rp K (FM f Δ σ true fr) H v d → Rp K (FM f Δ σ' true fr) H v d := fun h =>
    h.weak fun a fa => ⟨fun _ => ⟨fun z => (fa.1 rfl).1 (ow' a z), (fa.1 rfl).2⟩, fa.2⟩
  refine ⟨r.ext, r.g0, lσ.trans r.lσ, lρ.trans r.lρ, ?_, fun a ha => ⟨(r.pin a ha).1, fun z => (r.pin a ha).2 (ow' a z)⟩, fun g hg => (r.gh g hg).map fun _ _ x => key x, fun i fr h => ?_, fun i c fr h => ?_, fun i c fr h ha => ?_⟩
  · intro i j ci fi cj fj p h1 h2 h3 h4
    rw [eσ i (out h1 (fun z => nomatch z))] at h3
    rw [eσ j (out h2 (fun z => nomatch z))] at h4
    exact r.inj i j _ _ _ _ p h1 h2 h3 h4
  · obtain ⟨v, d, h1, h2, h3⟩ := r.im i fr h
    have z := out h (fun z => nomatch z)
    exact ⟨v, d, by rw [eσ i z]; exact h1, by rw [eρ i z]; exact h2, key h3⟩
  · obtain ⟨v, d, h1, h2, h3, h4⟩ := r.ow i c fr h
    have z := out h (fun z => nomatch z)
    exact ⟨v, d, by rw [eσ i z]; exact h1, by rw [eρ i z]; exact h2, h3, h4.map (fun o e => e) fun _ _ x => key x⟩
  · obtain ⟨p, h1, h2⟩ := r.ar i c fr h ha
    exact ⟨p, h1, by rw [eσ i (out h (fun z => nomatch z))]; exact h2⟩
/-- what stands at a pinned place stays -/
abbrev Fm.hold (f : Fm) (p : Addr) (o : HO) : Fm := { f with H0 := fun a => if a = p then some o else f.H0 a }
theorem R.hold {o : HO} (r : R K f Δ ρ σ H) (hp : H p = some o) (hP : p ∈ f.P) : R K (f.hold p o) Δ ρ σ H := by
  have no := (r.pin p hP).2
  refine ⟨fun b u e => ?_, fun a e => ?_, r.lσ, r.lρ, r.inj, r.pin, r.gh, r.im, fun i c fr h => ?_, r.ar⟩
  · by_cases z : b = p
    · subst z
      have e : (if b = b then some o else f.H0 b) = some u := e
      rw [if_pos rfl] at e
      cases e
      exact hp
    · have e : (if b = p then some o else f.H0 b) = some u := e
      rw [if_neg z] at e
      exact r.ext b u e
  · by_cases z : a = p
    · have e : (if a = p then some o else f.H0 a) = none := e
      rw [if_pos z] at e
      cases e
    · have e : (if a = p then some o else f.H0 a) = none := e
      rw [if_neg z] at e
      exact r.g0 a e
  · obtain ⟨q, d, h1, h2, h3, h4⟩ := r.ow i c fr h
    refine ⟨q, d, h1, h2, ?_, h4⟩
    have nq : q ≠ p := fun z => no ⟨i, c, fr, h, z ▸ h1⟩
    show (if q = p then some o else f.H0 q) = none
    rw [if_neg nq]
    exact h3
theorem R.unhold {o : HO} (r : R K (f.hold p o) Δ ρ σ H) (h0 : f.H0 p = none) (hg : f.G p) : H p = some o ∧ R K f Δ ρ σ H := by
  refine ⟨r.ext p o (if_pos rfl), fun b u e => ?_, fun a e => ?_, r.lσ, r.lρ, r.inj, r.pin, r.gh, r.im, fun i c fr h => ?_, r.ar⟩
  · refine r.ext b u ?_
    have nb : b ≠ p := fun z => by rw [z, h0] at e; cases e
    show (if b = p then some o else f.H0 b) = some u
    rw [if_neg nb]
    exact e
  · by_cases z : a = p
    · exact z ▸ hg
    · refine r.g0 a ?_
      show (if a = p then some o else f.H0 a) = none
      rw [if_neg z]
      exact e
  · obtain ⟨q, d, h1, h2, h3, h4⟩ := r.ow i c fr h
    refine ⟨q, d, h1, h2, ?_, h4⟩
    have h3 : (if q = p then some o else f.H0 q) = none := h3
    by_cases z : q = p
    · rw [if_pos z] at h3
      cases h3
    · rw [if_neg z] at h3
      exact h3
end

section
variable {K : PySem.W.Frag} {W : Wt} {Δ Δn Δb Δc : List Kd} {ta tb te ti : TE} {tt tu : TT} {tA : TA} {g : Gd} {ga gb gx : Gx} {gA : List Dt → O (List Dt × List Dt)} {k : Rk} {av fr av' fr' : Bool} {L : Lk} {i : Nat} {t u : TS} {g1 g2 : Gs}
theorem sx_lc {wi : TI} {g : TG} {vs sl : List Nat} {gi : List Dt → O (List Dt)} {h : Dt → List Dt → O (List Dt)} {TK : Bool → List Kd → List Kd} {gt : List Dt → O Bool} {n : Nat}
    (hi : SI K W0 Δ wi false fr gi) (hg : GJ K n g sl h TK) (hn : Δ.length = n) (hsl : ∀ i ∈ sl, i ∈ vs) (no : noOwn Δ vs = true) (hw : wipeK Δ vs = Δ) (hle : leA (TK fr Δ) Δ = true) (ht : ST K W0 (TK fr Δ) tt gt) (he : SX K (TK fr Δ) te (.v true fr') gx) :
    SX K Δ (tLc wi g tt te vs) (.new .l fr') (xLc vs gi h gt gx) := fun f ρ σ H Q r q => by
  have hv : ∀ i ∈ vs, ∀ k, Δ[i]? = some k → k = .no := fun i hi k e => wipeK_in hi k (by rw [hw]; exact e)
  refine hi f ρ σ H _ r ?_
  unfold xLc at q
  obtain ⟨ds, e1, q⟩ := bx_inv (P := fun o => PoX K f Δ σ (.new .l fr') o Q) id q
  rw [e1]
  by_cases hl : ds.length ≤ 100000
  · rw [if_pos hl] at q
    obtain ⟨⟨all, ρz⟩, ea, q⟩ := bx_inv (P := fun o => PoX K f Δ σ (.new .l fr') o Q) id q
    intro J H1 pf gv ge0 s1 hb hpf x1 sc D nD
    have hpf0 := hb rfl
    subst hpf0
    have r1 := (((r.mono s1).addP (o := .lst []) nD trivial).addG (fr := fr) (x1.mono (same_upd nD) fun a fa na => ⟨fun _ => ⟨(fa.1 rfl).1, fun z => by
      rcases List.mem_cons.mp z with e | h
      · exact na (e ▸ nD)
      · exact (fa.1 rfl).2 h⟩, fa.2⟩))
    obtain ⟨fD1, fD2, fD3⟩ := (r.mono s1).fresh nD
    have gD := r.g0 D fD3
    generalize hf1 : ({ f with P := D :: f.P, Γ := (gv, ge0, fr) :: f.Γ } : Fm) = f1 at r1
    have r1 : R K f1 Δ ρ σ (upd H1 D (.lst [])) := by rw [← hf1]; rw [← hf1] at r1; exact r1
    have dP : D ∈ f1.P := by rw [← hf1]; exact List.mem_cons_self
    have gG : (gv, ge0, fr) ∈ f1.Γ := by rw [← hf1]; exact List.mem_cons_self
    have h0 : f1.H0 D = none := by rw [← hf1]; exact fD3
    have gD1 : f1.G D := by rw [← hf1]; exact gD
    refine ⟨fun i m H' => m = ds.length - i ∧ i ≤ ds.length ∧ ∃ acc es ρi rest, H' D = some (.lst acc) ∧ R K f1 Δ ρi σ H' ∧ RpA K (FM f1 Δ σ true fr') H' acc es ∧ acc.length ≤ i ∧ lcX vs h gt gx (ds.drop i) ρi = .ok (rest, ρz) ∧ all = es ++ rest,
      ⟨ds.length, by simp, Nat.zero_le _, [], [], ρ, all, upd_same, r1, .nil, Nat.le_refl _, ea, rfl⟩, ?_⟩
    rintro i m H2 ⟨rfl, hi2, acc, es, ρi, rest, hD, r2, x2, la, er, eall⟩
    have stand : (∀ q, (none : Option (Addr × HO)) = some q → H2 q.1 = some q.2) ∧ ∃ F, RpA K F H2 gv ge0 := ⟨fun _ e => (nomatch e), _, r2.gh _ gG⟩
    by_cases hlt : i < ds.length
    · refine .inr ⟨sc.goes i H2 hlt stand, fun H' => i + 1 ≤ ds.length ∧ ∃ acc es ρi rest, H' D = some (.lst acc) ∧ R K f1 Δ ρi σ H' ∧ RpA K (FM f1 Δ σ true fr') H' acc es ∧ acc.length ≤ i + 1 ∧ lcX vs h gt gx (ds.drop (i + 1)) ρi = .ok (rest, ρz) ∧ all = es ++ rest,
        fun H' w => ⟨ds.length - (i + 1), by omega, rfl, w⟩, fun x H3 hy => ?_⟩
      obtain ⟨s3, hx⟩ := sc.yields i H2 x H3 hlt stand hy
      obtain ⟨d, hd, x3⟩ := hx _ (r2.gh _ gG)
      have edrop : ds.drop i = d :: ds.drop (i + 1) := by
        have hd' := (List.getElem?_eq_some_iff.mp hd).2
        rw [List.drop_eq_getElem_cons hlt, hd']
      rw [edrop] at er
      unfold lcX at er
      obtain ⟨ρ', eh, er⟩ := bx_inv (P := fun o => o = .ok (rest, ρz)) (fun z => nomatch z) er
      obtain ⟨c, ec, er⟩ := bx_inv (P := fun o => o = .ok (rest, ρz)) (fun z => nomatch z) er
      have r3 := r2.mono s3
      have rw3 := r3.wipe no
      rw [hw] at rw3
      refine hg f1 Δ ρi (wipe σ vs) H3 x d fr _ hn rw3 (x3.weak fun a y => by have := (fm_wipe no).mpr y; rwa [hw] at this) ?_
      rw [eh]
      intro σ4 t4
      have noSl : ∀ i ∈ sl, ∀ c fr, Δ[i]? ≠ some (.own c fr) := fun i hi c fr e => by cases hv i (hsl i hi) _ e
      refine ⟨?_, ?_⟩
      · rw [wipe_eq (σ' := σ4) (σ := wipe σ vs) (by rw [t4.r.lσ, t4.len, wipe_length, r.lσ]) fun i hi => (t4.keep i fun z => hi (hsl i z)).2]
        exact wipe_eq (wipe_length σ vs) fun i hi => wipe_out hi
      · refine ht f1 ρ' σ4 H3 _ t4.r ?_
        rw [ec]
        intro H4 s4
        have s24 := s3.trans s4
        cases c with
        | false =>
          show (if false = true then _ else _)
          rw [if_neg Bool.false_ne_true]
          have er : lcX vs h gt gx (ds.drop (i + 1)) ρi = .ok (rest, ρz) := er
          exact ⟨hlt, acc, es, ρi, rest, s24 _ _ hD, r2.mono s24, x2.same s24, by omega, er, eall⟩
        | true =>
          show (if true = true then _ else _)
          rw [if_pos rfl]
          have er : bx (gx ρ') (fun y => bx (lcX vs h gt gx (ds.drop (i + 1)) (clr vs y.2)) fun z => .ok (y.1 :: z.1, z.2)) = .ok (rest, ρz) := er
          obtain ⟨⟨e, ρ2⟩, ee, er⟩ := bx_inv (P := fun o => o = .ok (rest, ρz)) (fun z => nomatch z) er
          obtain ⟨⟨es', ρ3⟩, ees, er⟩ := bx_inv (P := fun o => o = .ok (rest, ρz)) (fun z => nomatch z) er
          cases er
          have fmi : ∀ {fr1 : Bool} {a : Addr}, FM f1 Δ σ true fr1 a → FM f1 (TK fr Δ) σ4 true fr1 a := fun {fr1 a} y => by
            have := (fm_wipe no).mpr y
            rw [hw] at this
            exact t4.fm this
          have fmo : ∀ {fr1 : Bool} {a : Addr}, FM f1 (TK fr Δ) σ4 true fr1 a → FM f1 Δ σ true fr1 a := fun {fr1 a} y => by
            have := t4.fm' noSl y
            refine (fm_wipe (vs := vs) no).mp ?_
            rw [hw]
            exact this
          have hD4 := s24 _ _ hD
          have r5 := (t4.r.mono s4).addG (fr := fr') ((x2.same s24).weak fun a y => fmi y)
          have r6 := r5.hold (p := D) (o := .lst acc) hD4 dP
          refine he _ ρ' σ4 H4 _ r6 ?_
          rw [ee]
          intro y H5 R5 x5
          obtain ⟨hD5, R5'⟩ := R5.unhold (f := { f1 with Γ := (acc, es, fr') :: f1.Γ }) h0 gD1
          have xa : RpA K (FM f1 Δ σ true fr') H5 acc es := (R5'.gh _ List.mem_cons_self).weak fun a y => fmo y
          have R6 : R K f1 (TK fr Δ) ρ2 σ4 H5 := R.dropG (f := f1) R5'
          have R8 := (R6.weak hle).reno (vs := vs) (σ' := σ) (ρ' := clr vs ρ2) hv (by rw [R6.lσ, r.lσ, leA_len hle]) (clr_len _ _) (fun i hi => by rw [(t4.keep i fun z => hi (hsl i z)).2, wipe_out hi]) fun i hi => clr_out hi
          refine ⟨acc, hD5, Nat.lt_of_lt_of_le (show acc.length < 100001 by omega) (by decide), hlt, acc ++ [y], es ++ [e], clr vs ρ2, es', upd_same, R8.updAt hD5 trivial trivial h0 (fun z => ((R8.pin D dP).2 z)) dP, ?_, by rw [List.length_append, List.length_singleton]; omega, ees, by rw [eall]; simp⟩
          refine (xa.updM hD5 trivial fun a y z => (y.1 rfl).2 (z ▸ dP)).append (.cons ?_ .nil)
          exact Rp.updM hD5 trivial (fun a y z => (y.1 rfl).2 (z ▸ dP)) (x5.weak fun a y => fmo y)
    · have ei : i = ds.length := by omega
      subst ei
      refine .inl ⟨sc.stops H2 stand, ?_⟩
      rw [List.drop_length] at er
      cases er
      rw [List.append_nil] at eall
      subst eall
      refine q D H2 ?_ fD2 fD3 ⟨acc, _, rfl, hD, ?_⟩
      · rw [← hf1] at r2
        exact R.dropG (f := f.pn D) r2
      · rw [← hf1] at x2
        exact x2
  · rw [if_neg hl] at q
    exact q.elim

/-! ### a walk over range(e), e changing an argument -/
theorem s_forX {gg : TG} {sl : List Nat} {n : Nat} {hh : Dt → List Dt → O (List Dt)} {TK : Bool → List Kd → List Kd} (hn : Δ.length = n) (h : SXA K Δ tA av fr gA) (hg : GJ K n gg sl hh TK) (hb : SS K W L (TK true Δ) Δ Δ Δ t g1) :
    SS K W L Δ Δ Δb Δc (tFor (iRng1 tA) gg t) (xFor (xRng1 gA) hh g1) := fun f ρ σ H E r q => by
  refine h f ρ σ H _ r ?_
  obtain ⟨⟨ds, ρ1⟩, e1, q⟩ := bx_inv (P := fun o => PoS K W L f _ Δb Δc o E) id q
  obtain ⟨⟨vs, ρ0⟩, e2, e1⟩ := bx_inv (P := fun o => o = .ok (ds, ρ1)) (fun z => nomatch z) e1
  rw [e2]
  intro ws H1 r1 x1
  simp only at e1
  split at e1
  · rename_i lo hi er
    cases e1
    unfold rng1 at er
    split at er
    · split at er
      · rename_i j c
        injection er with er
        rw [Prod.mk.injEq] at er
        obtain ⟨ea, eb⟩ := er
        subst ea eb
        cases x1 with
        | cons x1 xr =>
          cases xr
          rw [rpInt x1]
          refine ⟨j, rfl, c.1, c.2, ?_⟩
          have key := s_for (W := W) (Δb := Δb) (Δc := Δc) (wi := fun σ H Rk => Rk (Itr 0 (j - 0).toNat) H) (gI := fun _ => .ok (rangeD 0 j)) (fr := true) hn
            (fun f' ρ' σ' H' Rk r' q' => q' _ H' none [] [] (Same.refl H') (fun _ => rfl) (fun _ e => nomatch e) .nil sc_range) hg hb f ρ1 σ H1 E r1 q
          have key : tFor (fun σ H Rk => Rk (Itr 0 (j - 0).toNat) H) gg t E σ H1 := key
          rw [Int.sub_zero] at key
          exact key
      · cases er
    · cases er
  · cases e1

/-! ### pop -/
theorem set_self2 {α : Type} {l : List α} {i : Nat} {a : α} (h : l[i]? = some a) : l.set i a = l := by
  apply List.ext_getElem?
  intro j
  by_cases z : i = j
  · subst z
    rw [List.getElem?_set_self (List.getElem?_eq_some_iff.mp h).1, h]
  · rw [List.getElem?_set_ne z]
theorem RpA.eraseIdx {F : Addr → Prop} {H : Hp} : ∀ {xs : List V} {ds : List Dt} (i : Nat), RpA K F H xs ds → RpA K F H (xs.eraseIdx i) (ds.eraseIdx i)
  | _, _, _, .nil => .nil
  | _, _, 0, .cons _ r => r
  | _, _, i + 1, .cons q r => .cons q (RpA.eraseIdx i r)
theorem sx_popAt (hk : Δ[i]? = some (.own .l fr)) (hb : SX K Δ tb (.v av' fr') gx) : SX K Δ (tBM K "list" rPopAt (tVar i) (tCons tb tNil)) (.v true fr) (xPop i gx) := fun f ρ σ H Q r q => by
  obtain ⟨p, d0, h1, h2, h3, vs, ds, ed, h4, h5⟩ := r.ow i .l fr hk
  refine ⟨_, h1, .inl ⟨rfl, _, .inl (.inl h4)⟩, hb f ρ σ H _ r ?_⟩
  obtain ⟨⟨d, ρ1⟩, e1, q⟩ := bx_inv (P := fun o => PoX K f Δ σ (.v true fr) o Q) id q
  rw [e1]
  intro v H1 r1 x1
  obtain ⟨p', d0', h1', h2', h3', vs', ds', ed', h4', h5'⟩ := r1.ow i .l fr hk
  rw [h1] at h1'
  cases h1'
  subst ed'
  simp only [h2'] at q
  cases d with
  | int k =>
    simp only at q
    split at q
    · rename_i hk'
      split at q
      · rename_i j ej
        split at q
        · rename_i d ed
          obtain ⟨y, hy, xy⟩ := h5'.get' ed
          rw [rpInt x1]
          refine ⟨p, vs', k, j, y, rfl, rfl, h4', hk'.1, hk'.2, by rw [h5'.length]; exact ej, hy, ?_⟩
          have nf : ∀ {fr : Bool} (a : Addr), FM f Δ σ true fr a → a ≠ p := fun a fa z => (fa.1 rfl).1 (z ▸ ⟨i, .l, _, hk, h1⟩)
          have r2 := r1.updOwn hk h1 (c' := .l) (fr' := fr) (o' := .lst (vs'.eraseIdx j)) (show Mutb (.lst _) from trivial) ⟨_, _, rfl, upd_same, (h5'.updM h4' trivial fun a fa => nf a fa).eraseIdx j⟩
          rw [set_self2 hk] at r2
          exact q y _ r2 (Rp.updM h4' trivial (fun a fa => nf a fa) xy)
        · exact q.elim
      · exact q.elim
    · exact q.elim
  | _ => exact q.elim

/-! ### an argument's place read, written -/
theorem se_ownA (hk : Δ[i]? = some (.own .la fr)) : SE K W Δ (tVar i) (.o fr) (gVar i) := fun f ρ σ H Q r q => by
  obtain ⟨p, d, h1, h2, h3, vs, ds, e, h4, h5⟩ := r.ow i .la fr hk
  subst e
  unfold gVar at q
  rw [h2] at q
  exact ⟨_, h1, q p H vs ds rfl (Same.refl H) h4 (r.g0 p h3) h5⟩
theorem s_setIA {ge gi : Gd} (hk : Δ[i]? = some (.own .la fr)) (h : SE K W Δ te (.v true fr') ge) (h2 : SE K W Δ ti (.v av av') gi) : SS K W L Δ (Δ.set i (.own .la (fr && fr'))) Δb Δc (tAsg te (gSub (tVar i) ti rSetL)) (gSetI i ge gi) := fun f ρ σ H E r q => h f ρ σ H _ r <| by
  obtain ⟨p, d, g1, g2, g3, vs, ds, ed, g4, g5⟩ := r.ow i .la fr hk
  subst ed
  unfold gSetI at q
  cases e : ge ρ with
  | bad => rw [e] at q; exact q
  | ex z => rw [e] at q; exact fun H' s => q σ H' (r.ext.trans s)
  | ok d =>
    rw [e, bnd_ok, g2] at q
    simp only at q
    intro v H1 s x
    refine ⟨_, g1, h2 f ρ σ H1 _ (r.mono s) ?_⟩
    cases e2 : gi ρ with
    | bad => rw [e2] at q; exact q
    | ex z => rw [e2] at q; exact fun H' s2 => q σ H' ((r.ext.trans s).trans s2)
    | ok k =>
      rw [e2, bnd_ok] at q
      intro kv H2 s2 xk
      cases k with
      | int k =>
        simp only at q
        cases ej : ixN ds.length k with
        | none => rw [ej] at q; exact q.elim
        | some j =>
          rw [ej] at q
          rw [rpInt xk]
          have s12 := s.trans s2
          have hp := s12 _ _ g4
          refine ⟨p, vs, k, j, rfl, rfl, hp, by rw [g5.length]; exact ej, q σ _ ?_⟩
          refine (r.mono s12).updOwn hk g1 (c' := .la) (show Mutb (.lst _) from trivial) ⟨_, _, rfl, upd_same, ?_⟩
          have nf : ∀ {fr : Bool} (a : Addr), FM f Δ σ true fr a → a ≠ p := fun a fa z => (fa.1 rfl).1 (z ▸ ⟨i, .la, _, hk, g1⟩)
          exact RpA.set ((Rp.updM hp trivial (fun a fa => nf a fa) (x.same s2)).weak fun a y => y.weak id fun h => (Bool.and_eq_true_iff.mp h).2) j
            (((g5.same s12).updM hp trivial fun a fa => nf a fa).weak fun a y => y.weak id fun h => (Bool.and_eq_true_iff.mp h).1)
      | _ => exact q.elim
end

/-! ### defs -/
def kdM (c : Ct) (n m : Nat) : List Kd := .own c true :: (List.replicate (n - 1) (.im false) ++ List.replicate (m - n) .no)
theorem r_startM {K : PySem.W.Frag} {H : Hp} {a : Addr} {vs : List V} {d : Dt} {ds : List Dt} {c : Ct} {n m : Nat} {N : List Str} (hv : vs.length + 1 = n) (hN : N.length = m) (hm : n ≤ m) (hc : isArg c = true) (ha : argK c d = true) (hd : ArgAt K H a d) (x : RpA K (fun b => b ≠ a) H vs ds) :
    R K ⟨fun b => if b = a then none else H b, fun b => H b = none ∨ b = a, [], [], some a⟩ (kdM c n m) ((d :: ds) ++ List.replicate (m - (d :: ds).length) .none) (L2.start N (.ref a :: vs)) H := by
  have ld : ds.length + 1 = n := by rw [← x.length]; exact hv
  have hn1 : n - 1 = vs.length := by omega
  have own0 : ∀ (i : Nat) (c' : Ct) (fr' : Bool), (kdM c n m)[i]? = some (.own c' fr') → i = 0 ∧ c' = c ∧ fr' = true := fun i c' fr' e => by
    cases i with
    | zero => cases e; exact ⟨rfl, rfl, rfl⟩
    | succ i =>
      unfold kdM at e
      rw [List.getElem?_cons_succ] at e
      rcases List.mem_append.mp (List.mem_of_getElem? e) with h | h
      · cases List.eq_of_mem_replicate h
      · cases List.eq_of_mem_replicate h
  have s0 : (L2.start N (.ref a :: vs))[0]? = some (some (V.ref a)) := rfl
  have ow : ∀ b, Ow (kdM c n m) (L2.start N (.ref a :: vs)) b → b = a := fun b ⟨i, c', fr', h1, h2⟩ => by
    obtain ⟨rfl, _, _⟩ := own0 i c' fr' h1
    rw [s0] at h2
    cases h2
    rfl
  obtain ⟨o, ho, mo, hw⟩ := owC_of (c' := c) (F := FM ⟨fun b => if b = a then none else H b, fun b => H b = none ∨ b = a, [], [], some a⟩ (kdM c n m) (L2.start N (.ref a :: vs)) true true) (by cases c <;> first | rfl | cases hc) hd ha
  refine ⟨fun b u e => ?_, fun b e => ?_, ?_, ?_, ?_, fun b hb => absurd hb (by simp), fun g hg => absurd hg (by simp), fun i fr' h => ?_, fun i c' fr' h => ?_, fun i c' fr' h h' => ?_⟩
  · have e : (if b = a then none else H b) = some u := e
    by_cases z : b = a
    · rw [if_pos z] at e; cases e
    · rw [if_neg z] at e; exact e
  · have e : (if b = a then none else H b) = none := e
    by_cases z : b = a
    · exact .inr z
    · rw [if_neg z] at e; exact .inl e
  · unfold L2.start kdM
    simp only [List.length_append, List.length_map, List.length_replicate, List.length_cons, hN]
    omega
  · unfold kdM
    simp only [List.length_append, List.length_replicate, List.length_cons]
    omega
  · intro i j ci fi cj fj p h1 h2 _ _
    obtain ⟨rfl, _, _⟩ := own0 i ci fi h1
    obtain ⟨rfl, _, _⟩ := own0 j cj fj h2
    rfl
  · cases i with
    | zero => cases h
    | succ i =>
      unfold kdM at h
      rw [List.getElem?_cons_succ] at h
      by_cases hi : i < n - 1
      · rw [List.getElem?_append_left (by rw [List.length_replicate]; exact hi)] at h
        have efr : fr' = false := by
          have := List.eq_of_mem_replicate (List.mem_of_getElem? h)
          cases this; rfl
        subst efr
        have hi' : i < vs.length := by omega
        obtain ⟨d', h1, h2⟩ := x.get (List.getElem?_eq_getElem hi')
        refine ⟨vs[i], d', ?_, ?_, h2.weak fun b nb => ⟨fun _ => ⟨fun z => nb (ow b z), by simp⟩, fun e => nomatch e⟩⟩
        · unfold L2.start
          rw [List.getElem?_append_left (by rw [List.length_map, List.length_cons]; omega), List.getElem?_map, List.getElem?_cons_succ, List.getElem?_eq_getElem hi']
          rfl
        · rw [List.cons_append, List.getElem?_cons_succ, List.getElem?_append_left (by omega)]
          exact h1
      · rw [List.getElem?_append_right (by rw [List.length_replicate]; omega)] at h
        cases List.eq_of_mem_replicate (List.mem_of_getElem? h)
  · obtain ⟨rfl, rfl, rfl⟩ := own0 i c' fr' h
    exact ⟨a, d, s0, rfl, if_pos rfl, hw _ ho⟩
  · obtain ⟨rfl, rfl, rfl⟩ := own0 i c' fr' h
    exact ⟨a, rfl, s0⟩
section
variable {P : Program} {w : World} {K : PySem.W.Frag} {mg : Str → Option Value} {base : Heap} {x qual : Str} {st : Stmt} {fa : Addr} {fd : FuncData} {N ps : List Str} {k n m : Nat} {Δn : List Kd} {g : Gs} {c : Ct}
theorem fn_okM (F : L2.Fun K x qual st fa fd) (S : FnScope N ps (defScope st)) (hn : ps.length = n) (hm : N.length = m) (hnm : n ≤ m) (hc : isArg c = true)
    (hb : ∀ (cdv : Value) (A : Around) (outer : List Env) (s : Shared) (H : Hp) (E : XK), Room k (A.deeper (envOfC qual (defScope st) s.heap.objs.size fa cdv)) → ∃ ts, BD (cxOf CX0 P w K mg base N qual (defScope st) fa cdv A outer s H E).nox K W0 .m (kdM c n m) Δn (kdM c n m) (kdM c n m) (defBody st) ts g) :
    FnOk P w K mg base CX0 (k + 1) fa fd ps (spM K c n (fnN m g)) := by
  refine F.ok S (fun vs H Q E h => ?_) (fun cdv A outer s H vs Q E hr h => ?_)
  · obtain ⟨a, vs', d, ds', rfl, h1, _⟩ := h
    rw [h1, hn]
  · obtain ⟨a, vs', d, ds', rfl, h1, h2, h3, h4, h5⟩ := h
    obtain ⟨ts, B⟩ := hb cdv A outer s H E hr
    refine ⟨ts, B.ps, B.ss _ _ _ H _ (r_startM (by rw [List.length_cons] at h1; exact h1) hm hnm hc h2 h3 h4) ?_⟩
    unfold fnN at h5
    cases e : g ((d :: ds') ++ List.replicate (m - (d :: ds').length) .none) with
    | bad => rw [e] at h5; exact h5.elim
    | ex z => rw [e] at h5; exact h5.elim
    | ok fl =>
      rw [e] at h5
      cases fl with
      | nx ρ => exact h5.elim
      | rt z =>
        unfold PoS
        simp only
        have h5 : (match (O.ok z : O Dt) with
          | .ok (.tuple [r, e]) => ∀ v H', (∀ b o, b ≠ a → H b = some o → H' b = some o) → ArgAt K H' a e → Rp K (fun b => H b = none) H' v r → Q v H'
          | _ => False) := h5
        split at h5
        · rename_i r e ez
          cases ez
          simp only
          refine fun v H' s arg x => h5 v H' (fun b o nb eb => s b o ?_) arg (x.weak fun b fb => ?_)
          · show (if b = a then none else H b) = some o
            rw [if_neg nb]
            exact eb
          · rcases fb.1 with q | q
            · exact q
            · exact absurd q fb.2
        · exact h5.elim
      | bk ρ => exact h5.elim
      | ct ρ => exact h5.elim
theorem fn_okML (F : L2.Fun K x qual st fa fd) (S : FnScope N ps (defScope st)) (hn : ps.length = n) (hm : N.length = m) (hnm : n ≤ m) (hc : isArg c = true)
    (hb : ∀ (cdv : Value) (A : Around) (outer : List Env) (s : Shared) (H : Hp) (E : XK), Room k (A.deeper (envOfC qual (defScope st) s.heap.objs.size fa cdv)) → ∃ ts, BD (cxOf CX0 P w K mg base N qual (defScope st) fa cdv A outer s H E).nox K W0 .ml (kdM c n m) Δn (kdM c n m) (kdM c n m) (defBody st) ts g) :
    FnOk P w K mg base CX0 (k + 1) fa fd ps (spML K c n (fnL m g)) := by
  refine F.ok S (fun vs H Q E h => ?_) (fun cdv A outer s H vs Q E hr h => ?_)
  · obtain ⟨a, vs', d, ds', rfl, h1, _⟩ := h
    rw [h1, hn]
  · obtain ⟨a, vs', d, ds', rfl, h1, h2, h3, h4, h5⟩ := h
    obtain ⟨ts, B⟩ := hb cdv A outer s H E hr
    refine ⟨ts, B.ps, B.ss _ _ _ H _ (r_startM (by rw [List.length_cons] at h1; exact h1) hm hnm hc h2 h3 h4) ?_⟩
    unfold fnL at h5
    cases e : g ((d :: ds') ++ List.replicate (m - (d :: ds').length) .none) with
    | bad => rw [e] at h5; exact h5.elim
    | ex z => rw [e] at h5; exact h5.elim
    | ok fl =>
      rw [e] at h5
      cases fl with
      | nx ρ => exact h5.elim
      | rt z =>
        unfold PoS
        simp only
        have h5 : (match (O.ok z : O Dt) with
          | .ok (.tuple [r, e]) => ∀ p H', p ≠ a → H p = none → (∀ b o, b ≠ a → H b = some o → H' b = some o) → ArgAt K H' a e → OwC K .l (fun b => H b = none ∧ b ≠ p) H' p r → Q (.ref p) H'
          | _ => False) := h5
        split at h5
        · rename_i r e ez
          cases ez
          simp only
          refine fun p H' npa np s arg x => h5 p H' npa ?_ (fun b o nb eb => s b o ?_) arg (x.map (fun _ e => e) fun _ _ y => y.weak fun b fb => ⟨?_, fb.2⟩)
          · have np : (if p = a then none else H p) = none := np
            rw [if_neg npa] at np
            exact np
          · show (if b = a then none else H b) = some o
            rw [if_neg nb]
            exact eb
          · rcases fb.1.1 with q | q
            · exact q
            · exact absurd q fb.1.2
        · exact h5.elim
      | bk ρ => exact h5.elim
      | ct ρ => exact h5.elim
end
end Sim
end T_SimN

section T_SimO
set_option Elab.async false
set_option linter.all false
set_option maxRecDepth 100000
/-! SimO: the rules for a text: expressions and statements that change an argument; abs, d.get(k, x). -/
namespace Sim
open PySem PySem.Spec L2
open PyProof.Rows hiding St

/-! ### abs, d.get(k, x) -/
def hAbs : List Dt → O Dt := fun ds => match ds with
  | [.int i] => .ok (.int (if i < 0 then -i else i))
  | _ => .bad
def gDGetD (i : Nat) (gk gx : Gd) : Gd := fun ρ => match dAt ρ i with
  | some es => bnd (gk ρ) fun kd => bnd (gx ρ) fun x => (match keyOf kd with
    | some k => .ok ((dGet es k).getD x)
    | none => .bad)
  | none => .bad
section
variable {K : PySem.W.Frag} {W : Wt} {Δ : List Kd} {ti tx : TE} {gk gx : Gd} {fr fr' fr2 av av2 : Bool} {i : Nat}
theorem csc_abs : CSc K (fun xs H Q => ∃ i, xs = [.int i] ∧ Q (.int (if i < 0 then -i else i)) H) hAbs := fun H xs ds Q hx h => by
  cases hx with
  | nil => exact h.elim
  | cons x r =>
    cases r with
    | nil =>
      cases x with
      | int i => exact ⟨i, rfl, h.2 _ (.int _)⟩
      | _ => exact h.elim
    | cons y r => cases x <;> exact h.elim
theorem scl_abs : SclA hAbs := fun ds => by
  unfold hAbs
  split
  · exact .inl ⟨_, rfl, rfl⟩
  · exact .inr rfl
theorem se_dgetD (hk : Δ[i]? = some (.own .dk fr)) (h : SE K W Δ ti (.v av fr') gk) (hx : SE K W Δ tx (.v true fr2) gx) : SE K W Δ (tDGet2 (tVar i) ti tx) (.v true (fr && fr2)) (gDGetD i gk gx) := fun f ρ σ H Q r q => by
  unfold gDGetD at q
  cases ed : dAt ρ i with
  | none => rw [ed] at q; exact q.elim
  | some es =>
    rw [ed] at q
    obtain ⟨p, kvs, g1, g3, g4, g5⟩ := dk_own r hk ed
    refine ⟨_, g1, p, rfl, .inl ⟨kvs, .inl g4⟩, h f ρ σ H _ r ?_⟩
    simp only at q
    cases e2 : gk ρ with
    | bad => rw [e2] at q; exact q
    | ex z => rw [e2] at q; exact q
    | ok kd =>
      rw [e2, bnd_ok] at q
      intro kv H1 s1 xk
      refine hx f ρ σ H1 _ (r.mono s1) ?_
      cases e3 : gx ρ with
      | bad => rw [e3] at q; exact q
      | ex z => rw [e3] at q; exact fun H' s => q H' (s1.trans s)
      | ok x =>
        rw [e3, bnd_ok] at q
        intro w H2 s2 xx
        have s12 := s1.trans s2
        cases ek : keyOf kd with
        | none => rw [ek] at q; exact q.elim
        | some k =>
          rw [ek] at q
          simp only at q
          rw [kV_keyOf xk ek]
          refine ⟨valV kvs k, DGet.k (s12 _ _ g4), ?_⟩
          rcases g5.get k with ⟨e1, e⟩ | ⟨v, d, e1, e, x'⟩
          · rw [e1]
            rw [e] at q
            exact q w H2 s12 (xx.fm id fun h => (Bool.and_eq_true_iff.mp h).2)
          · rw [e1]
            rw [e] at q
            exact q v H2 s12 ((x'.same s12).fm id fun h => (Bool.and_eq_true_iff.mp h).1)
end

def xPur (g : Gx) : Gx := fun ρ => bx (g ρ) fun x => if pure1 x.1 then .ok x else .bad
theorem SX.pur {K : PySem.W.Frag} {Δ : List Kd} {te : TE} {gx : Gx} {av fr : Bool} (h : SX K Δ te (.v av fr) gx) : SX K Δ te (.v true true) (xPur gx) := fun f ρ σ H Q r q => h f ρ σ H Q r <| by
  obtain ⟨⟨d, ρ1⟩, e1, q⟩ := bx_inv (P := fun o => PoX K f Δ σ (.v true true) o Q) id q
  rw [e1]
  intro v H' r' x
  by_cases p : pure1 d = true
  · simp only [p, if_true] at q
    exact q v H' r' (x.pure p)
  · simp only [p, if_false] at q
    exact q.elim

/-! ### texts -/
structure XD (X : Cx) (K : PySem.W.Frag) (Δ : List Kd) (e : Expr) (te : TE) (k : Rk) (g : Gx) : Prop where
  pe : PE X e te
  hK : X.K = K
  sx : SX K Δ te k g
structure XTD (X : Cx) (K : PySem.W.Frag) (Δ : List Kd) (e : Expr) (tt : TT) (g : List Dt → O (Bool × List Dt)) : Prop where
  pt : PT X e tt
  hK : X.K = K
  st : SXT K Δ tt g
structure XWD (X : Cx) (K : PySem.W.Frag) (Δ : List Kd) (e : Expr) (tt : TT) (g : List Dt → O (Bool × List Dt)) : Prop where
  pw : PW X e tt
  hK : X.K = K
  st : SXT K Δ tt g
structure XAD (X : Cx) (K : PySem.W.Frag) (Δ : List Kd) (es : List Expr) (ta : TA) (av fr : Bool) (g : List Dt → O (List Dt × List Dt)) : Prop where
  pa : PA X es ta
  hK : X.K = K
  sa : SXA K Δ ta av fr g

structure BDp (X : Cx) (K : PySem.W.Frag) (Δ : List Kd) (i : Nat) (es : List Expr) (ta : TA) (g : List Dt → O (List Dt)) : Prop where
  pa : PA X es ta
  hK : X.K = K
  sb : SB K Δ i ta g
structure XBD (X : Cx) (K : PySem.W.Frag) (Δ : List Kd) (i : Nat) (es : List Expr) (ta : TA) (g : List Dt → O (List Dt × List Dt)) : Prop where
  pa : PA X es ta
  hK : X.K = K
  sb : SXB K Δ i ta g
section
variable {X : Cx} {K : PySem.W.Frag} {W : Wt} {Δ Δ1 Δn Δb Δc : List Kd} {a b c e f elt tg iter : Expr} {es ifs : List Expr} {ta tb tc te ti tx : TE} {tt tu : TT} {tA : TA} {g gk gx0 ge gi : Gd} {ga gb gx : Gx} {gt0 : List Dt → O Bool} {gt gu : List Dt → O (Bool × List Dt)} {gA : List Dt → O (List Dt × List Dt)} {gA0 gI : List Dt → O (List Dt)} {k : Rk} {av fr av' fr' av2 fr2 : Bool} {L : Lk} {pos pos' : Pos} {t u : TS} {g1 g2 : Gs} {sts sts2 : List Stmt} {i : Nat}

theorem x_abs {x : Str} {p : Pos} (hm : X.mg x = none) (h : AD X K W Δ (e :: es) tA av fr gA0) (hv : bootBuiltins x = some (.builtin "abs") := by decide +kernel) (hg : Gl X x := by rfl) (hn : x ≠ "__name__" := by decide) (hdb : (x == ("__debug__" : Str)) = false := by decide)
    (he : starEach (e :: es) X.env = (false, eval e X.env) :: starEach es X.env := by rfl) (hpl : (backTo pos (starEach es X.env)).any (·.1) = false := by rfl) :
    PD X K W Δ (.Call (.Name x p) (e :: es) [] pos) (tCB (fun xs H Q => ∃ i, xs = [.int i] ∧ Q (.int (if i < 0 then -i else i)) H) tA) (.v true true) (gCB hAbs gA0) := ⟨pe_callB call_abs hg hm hv h.pa hn hdb he hpl, h.hK, se_cb scl_abs csc_abs h.sa⟩
theorem x_dgetD {m : Nat} {x : Str} {p apos cpos : Pos} (i : Nat) (hr : Room m X.A) (h : PD X K W Δ e te (.v av fr') gk) (hx : PD X K W Δ f tx (.v true fr2) gx0) (hk : Δ[i]? = some (.own .dk fr) := by rfl) (hv : Vis X.env.scope x := by first | exact Or.inl rfl | exact Or.inr (Or.inl rfl) | exact Or.inr (Or.inr rfl)) (hN : X.N[i]? = some x := by rfl) (hd : (x == ("__debug__" : Str)) = false := by decide) (hcd : (x == ("__classdict__" : Str)) = false := by decide)
    (m : M2 X (.Name x p) "get" apos e f cpos := by exact ⟨rfl, rfl, rfl, rfl⟩) :
    PD X K W Δ (.Call (.Attribute (.Name x p) "get" apos) [e, f] [] cpos) (tDGet2 (tVar i) te tx) (.v true (fr && fr2)) (gDGetD i gk gx0) := ⟨pe_dget2 (by have := hr.un; omega) (pe_var hN hv hd hcd) h.pe hx.pe m, h.hK, se_dgetD hk h.se hx.se⟩

theorem xd_of (h : PD X K W0 Δ e te (.v av fr) g) : XD X K Δ e te (.v av fr) (xP g) := ⟨h.pe, h.hK, SX.of h.se⟩
theorem xd_ofN {ct : Ct} (h : PD X K W0 Δ e te (.new ct fr) g) : XD X K Δ e te (.new ct fr) (xP g) := ⟨h.pe, h.hK, SX.ofN h.se⟩
theorem XD.wk (h : XD X K Δ e te (.v av fr) gx) (h1 : av' = true → av = true := by decide) (h2 : fr' = true → fr = true := by decide) : XD X K Δ e te (.v av' fr') gx := ⟨h.pe, h.hK, h.sx.wk h1 h2⟩
theorem XD.pur (h : XD X K Δ e te (.v av fr) gx) : XD X K Δ e te (.v true true) (xPur gx) := ⟨h.pe, h.hK, h.sx.pur⟩
theorem XD.nv (h : XD X K Δ e te (.new .l fr) gx) : XD X K Δ e te (.v true fr) gx := ⟨h.pe, h.hK, h.sx.nv⟩
theorem xa_nil (hK : X.K = K := by rfl) : XAD X K Δ [] tNil true true xNil := ⟨pa_nil, hK, sxa_nil⟩
theorem xa_cons (ha : XD X K Δ a ta (.v true fr) ga) (hr : XAD X K Δ es tA true fr' gA) (hs : starEach (a :: es) X.env = (false, eval a X.env) :: starEach es X.env := by rfl) : XAD X K Δ (a :: es) (tCons ta tA) true (fr && fr') (xCons ga gA) := ⟨pa_cons ha.pe hr.pa hs, ha.hK, sxa_cons ha.sx hr.sa⟩
theorem xa_of (h : AD X K W0 Δ es tA av fr gA0) : XAD X K Δ es tA av fr (xPA gA0) := ⟨h.pa, h.hK, SXA.of h.sa⟩
theorem XAD.to (av' fr' : Bool) (h : XAD X K Δ es tA av fr gA) (h1 : av' = true → av = true := by decide) (h2 : fr' = true → fr = true := by decide) : XAD X K Δ es tA av' fr' gA := ⟨h.pa, h.hK, h.sa.wk h1 h2⟩

theorem yb_nil (hK : X.K = K := by rfl) : BDp X K Δ i [] tNil gNil := ⟨pa_nil, hK, sb_nil⟩
theorem yb_cons {c' : Ct} {g0 : Gd} (ha : PD X K W0 Δ a ta (.v true fr) g0) (hr : BDp X K Δ i es tA gA0) (hk : Δ[i]? = some (.own c' fr') := by rfl) (hs : starEach (a :: es) X.env = (false, eval a X.env) :: starEach es X.env := by rfl) : BDp X K Δ i (a :: es) (tCons ta tA) (gCons g0 gA0) := ⟨pa_cons ha.pe hr.pa hs, ha.hK, sb_cons hk ha.se hr.sb⟩
theorem yb_own {c' : Ct} (j : Nat) {x : Str} {p : Pos} (hr : BDp X K Δ i es tA gA0) (hj : Δ[j]? = some (.own .l fr) := by rfl) (hk : Δ[i]? = some (.own c' fr') := by rfl) (hij : i ≠ j := by decide) (hN : X.N[j]? = some x := by rfl) (hv : Vis X.env.scope x := by first | exact Or.inl rfl | exact Or.inr (Or.inl rfl) | exact Or.inr (Or.inr rfl)) (hd : (x == ("__debug__" : Str)) = false := by decide)
    (hcd : (x == ("__classdict__" : Str)) = false := by decide) (hs : starEach (.Name x p :: es) X.env = (false, eval (.Name x p) X.env) :: starEach es X.env := by rfl) : BDp X K Δ i (.Name x p :: es) (tCons (tVar j) tA) (gCons (gVar j) gA0) := ⟨pa_cons (pe_var hN hv hd hcd) hr.pa hs, hr.hK, sb_own hj hk hij hr.sb⟩
theorem xb_p (h : BDp X K Δ i es tA gA0) : XBD X K Δ i es tA (xPA gA0) := ⟨h.pa, h.hK, sxb_of h.sb⟩
theorem xb_a {c' : Ct} (h : XAD X K Δ es tA true fr gA) (hk : Δ[i]? = some (.own c' fr') := by rfl) : XBD X K Δ i es tA gA := ⟨h.pa, h.hK, sxb_a hk h.sa⟩
theorem xd_add (ha : XD X K Δ a ta (.v true fr) ga) (hb : XD X K Δ b tb (.v av' fr') gb) : XD X K Δ (.BinOp a .Add b pos) (tOp (rI0 fun i j => .int (i + j)) ta tb) (.v true true) (xOp hAdd ga gb) := ⟨pe_op op_add ha.pe hb.pe, ha.hK, sx_op scl_I0 osc_I0 ha.sx hb.sx⟩
theorem xd_sub (ha : XD X K Δ a ta (.v true fr) ga) (hb : XD X K Δ b tb (.v av' fr') gb) : XD X K Δ (.BinOp a .Sub b pos) (tOp (rI0 fun i j => .int (i - j)) ta tb) (.v true true) (xOp hSub ga gb) := ⟨pe_op op_sub ha.pe hb.pe, ha.hK, sx_op scl_I0 osc_I0 ha.sx hb.sx⟩
theorem xd_mul (ha : XD X K Δ a ta (.v true fr) ga) (hb : XD X K Δ b tb (.v av' fr') gb) : XD X K Δ (.BinOp a .Mult b pos) (tOp (rI CMul fun i j => .int (i * j)) ta tb) (.v true true) (xOp hMul ga gb) := ⟨pe_op op_mul ha.pe hb.pe, ha.hK, sx_op scl_I (osc_I fun _ _ => cMul_ok) ha.sx hb.sx⟩
theorem xd_div (ha : XD X K Δ a ta (.v true fr) ga) (hb : XD X K Δ b tb (.v av' fr') gb) : XD X K Δ (.BinOp a .FloorDiv b pos) (tOp (rI CDivW fun i j => .int (i / j)) ta tb) (.v true true) (xOp hDiv ga gb) := ⟨pe_op op_fdivW ha.pe hb.pe, ha.hK, sx_op scl_I (osc_I fun _ _ => cDiv_ok) ha.sx hb.sx⟩
theorem xd_mod (ha : XD X K Δ a ta (.v true fr) ga) (hb : XD X K Δ b tb (.v av' fr') gb) : XD X K Δ (.BinOp a .Mod b pos) (tOp (rI (fun _ j => 0 < j) fun i j => .int (i % j)) ta tb) (.v true true) (xOp hMod ga gb) := ⟨pe_op op_mod ha.pe hb.pe, ha.hK, sx_op scl_I (osc_I fun _ _ => cMod_ok) ha.sx hb.sx⟩
theorem xd_cmp {op : CmpOp} {r : R2} {h : Dt → Dt → O Dt} (o : OR X K op r h) (ha : XD X K Δ a ta (.v true fr) ga) (hb : XD X K Δ b tb (.v av' fr') gb) (hm : behindInMarks op b = false := by first | exact nobehind _ (by decide) (by decide) | rfl) : XD X K Δ (.Compare a [op] [b] pos) (tOp r ta tb) (.v true true) (xOp h ga gb) := ⟨pe_cmpR o.ho ha.pe hb.pe hm, ha.hK, sx_op o.scl o.osc ha.sx hb.sx⟩
theorem xt_cmp {op : CmpOp} {r : R2} {h : Dt → Dt → O Dt} (o : OR X K op r h) (ha : XD X K Δ a ta (.v true fr) ga) (hb : XD X K Δ b tb (.v av' fr') gb) (hm : behindInMarks op b = false := by first | exact nobehind _ (by decide) (by decide) | rfl) : XTD X K Δ (.Compare a [op] [b] pos) (tTest (tOp r ta tb)) (xTest (xOp h ga gb)) := ⟨pt_cmpR o.ho ha.pe hb.pe hm, ha.hK, sxt_test (sx_op o.scl o.osc ha.sx hb.sx)⟩
theorem xd_ix (ha : XD X K Δ a ta (.v true fr) ga) (hb : XD X K Δ b tb (.v av' fr') gb) (hs : PlainIx b := by exact fun _ _ => rfl) : XD X K Δ (.Subscript a b pos) (tOp (rIx K) ta tb) (.v true fr) (xOp hIx ga gb) :=
  ⟨pe_ix (by have q := ix_seq (X := X); rw [ha.hK] at q; exact q) ha.pe hb.pe hs, ha.hK, sx_ix ha.sx hb.sx⟩
theorem xd_ixO (i : Nat) {x : Str} {p : Pos} (hb : XD X K Δ b tb (.v av' fr') gb) (hk : Δ[i]? = some (.own .l fr) := by rfl) (hN : X.N[i]? = some x := by rfl) (hv : Vis X.env.scope x := by first | exact Or.inl rfl | exact Or.inr (Or.inl rfl) | exact Or.inr (Or.inr rfl)) (hd : (x == ("__debug__" : Str)) = false := by decide)
    (hcd : (x == ("__classdict__" : Str)) = false := by decide) (hs : PlainIx b := by exact fun _ _ => rfl) : XD X K Δ (.Subscript (.Name x p) b pos) (tOp (rIx K) (tVar i) tb) (.v true fr) (xIxO i gb) :=
  ⟨pe_ix (by have q := ix_seq (X := X); rw [hb.hK] at q; exact q) (pe_var hN hv hd hcd) hb.pe hs, hb.hK, sx_ixO hk hb.sx⟩
theorem xd_tup {x1} (h : XAD X K Δ es tA av fr gA) : XD X K Δ (.Tuple es x1 pos) (tTup tA) (.v av fr) (xTup gA) := ⟨pe_tup h.pa, h.hK, sx_tup h.sa⟩
theorem xd_lst (h : XAD X K Δ es tA true fr gA) : XD X K Δ (.List es pos) (tLst tA) (.new .l fr) (xLst gA) := ⟨pe_lst h.pa, h.hK, sx_lst h.sa⟩
/-! tests -/
theorem xt_of (h : TD X K W0 Δ e tt gt0) : XTD X K Δ e tt (xPT gt0) := ⟨h.pt, h.hK, SXT.of h.st⟩
theorem xt_val (h : XD X K Δ e te (.v av fr) gx) (he : ∀ whole, isTrue e X.env whole = (do let v ← whole; standAt e.pos; holding [v] (truthy v)) := by intro _; rfl) : XTD X K Δ e (tB te) (xTest gx) := ⟨pt_val h.pe he, h.hK, sxt_test h.sx⟩
theorem xt_not (h : XTD X K Δ a tt gt) : XTD X K Δ (.UnaryOp .Not a pos) (tNot tt) (xNot gt) := ⟨pt_not h.pt, h.hK, sxt_not h.st⟩
theorem xw_and1 (h : XTD X K Δ a tt gt) : XWD X K Δ (.BoolOp .And [a] pos) tt gt := ⟨pw_and1 h.pt, h.hK, h.st⟩
theorem xw_or1 (h : XTD X K Δ a tt gt) : XWD X K Δ (.BoolOp .Or [a] pos) tt gt := ⟨pw_or1 h.pt, h.hK, h.st⟩
theorem xw_and (h : XTD X K Δ a tt gt) (h2 : XWD X K Δ (.BoolOp .And (b :: es) pos) tu gu) : XWD X K Δ (.BoolOp .And (a :: b :: es) pos) (tAnd tt tu) (xAnd gt gu) := ⟨pw_and h.pt h2.pw, h.hK, sxt_and h.st h2.st⟩
theorem xw_or (h : XTD X K Δ a tt gt) (h2 : XWD X K Δ (.BoolOp .Or (b :: es) pos) tu gu) : XWD X K Δ (.BoolOp .Or (a :: b :: es) pos) (tOr tt tu) (xOr gt gu) := ⟨pw_or h.pt h2.pw, h.hK, sxt_or h.st h2.st⟩
theorem xt_w (h : XWD X K Δ e tt gt) : XTD X K Δ e tt gt := ⟨h.pw.pt, h.hK, h.st⟩
/-! calls -/
theorem xd_min2 {x : Str} {p : Pos} (hm : X.mg x = none) (h : XAD X K Δ (e :: es) tA av fr gA) (hc : X.calm = true := by rfl) (hv : bootBuiltins x = some (.builtin "min") := by decide +kernel) (hg : Gl X x := by rfl) (hn : x ≠ "__name__" := by decide) (hdb : (x == ("__debug__" : Str)) = false := by decide)
    (he : starEach (e :: es) X.env = (false, eval e X.env) :: starEach es X.env := by rfl) (hpl : (backTo pos (starEach es X.env)).any (·.1) = false := by rfl) :
    XD X K Δ (.Call (.Name x p) (e :: es) [] pos) (tCB (fun xs H Q => ∃ i j, xs = [.int i, .int j] ∧ Q (.int (if j < i then j else i)) H) tA) (.v true true) (xCB hMin2 gA) := ⟨pe_callB (call_min2 hc) hg hm hv h.pa hn hdb he hpl, h.hK, sx_cb scl_min2 csc_min2 h.sa⟩
theorem xd_max2 {x : Str} {p : Pos} (hm : X.mg x = none) (h : XAD X K Δ (e :: es) tA av fr gA) (hc : X.calm = true := by rfl) (hv : bootBuiltins x = some (.builtin "max") := by decide +kernel) (hg : Gl X x := by rfl) (hn : x ≠ "__name__" := by decide) (hdb : (x == ("__debug__" : Str)) = false := by decide)
    (he : starEach (e :: es) X.env = (false, eval e X.env) :: starEach es X.env := by rfl) (hpl : (backTo pos (starEach es X.env)).any (·.1) = false := by rfl) :
    XD X K Δ (.Call (.Name x p) (e :: es) [] pos) (tCB (fun xs H Q => ∃ i j, xs = [.int i, .int j] ∧ Q (.int (if j > i then j else i)) H) tA) (.v true true) (xCB hMax2 gA) := ⟨pe_callB (call_max2 hc) hg hm hv h.pa hn hdb he hpl, h.hK, sx_cb scl_max2 csc_max2 h.sa⟩
theorem xd_int1 {x : Str} {p : Pos} (hm : X.mg x = none) (h : XAD X K Δ (e :: es) tA av fr gA) (hv : bootBuiltins x = some (.type "int") := by decide +kernel) (hg : Gl X x := by rfl) (hn : x ≠ "__name__" := by decide) (hdb : (x == ("__debug__" : Str)) = false := by decide)
    (he : starEach (e :: es) X.env = (false, eval e X.env) :: starEach es X.env := by rfl) (hpl : (backTo pos (starEach es X.env)).any (·.1) = false := by rfl) :
    XD X K Δ (.Call (.Name x p) (e :: es) [] pos) (tCB (fun xs H Q => (∃ i, xs = [.int i] ∧ Q (.int i) H) ∨ ∃ k, xs = [.bl k] ∧ Q (.int (if k then 1 else 0)) H) tA) (.v true true) (xCB hInt1 gA) := ⟨pe_callTy call_int1 hg hm hv h.pa hn hdb he hpl, h.hK, sx_cb scl_int1 csc_int1 h.sa⟩
theorem xd_callN {x : Str} {p : Pos} {CXT' : CXT} {kk nn : Nat} {fa : Addr} {fd : FuncData} {ps : List Str} {gg : List Dt → O Dt} {mg : Str → Option Value} (F : FnOk X.prog X.w X.K X.mg X.base CXT' kk fa fd ps (spG K mg nn gg)) (hr : Room kk X.A) (hm : X.mg x = some (.ref fa)) (hk : PySem.W.keepIn X.K (.ref fa) = true) (hb : Binds X.K fd ps [])
    (hx : Passes CXT' X E0) (h : XAD X K Δ (e :: es) tA av fr gA) (hg : Gl X x := by rfl) (hdb : (x == ("__debug__" : Str)) = false := by decide) (he : starEach (e :: es) X.env = (false, eval e X.env) :: starEach es X.env := by rfl) (hpl : (backTo pos (starEach es X.env)).any (·.1) = false := by rfl) :
    XD X K Δ (.Call (.Name x p) (e :: es) [] pos) (tCall (spG K mg nn gg) [] E0 tA) (.v true true) (xCallN nn gg gA) := ⟨pe_call F hr hg hm hk hb .nil hx h.pa hdb he hpl, h.hK, sx_callN h.sa⟩
theorem xd_callL {x : Str} {p : Pos} {CXT' : CXT} {kk nn : Nat} {fa : Addr} {fd : FuncData} {ps : List Str} {gg : List Dt → O Dt} {mg : Str → Option Value} (F : FnOk X.prog X.w X.K X.mg X.base CXT' kk fa fd ps (spL K mg nn gg)) (hr : Room kk X.A) (hm : X.mg x = some (.ref fa)) (hk : PySem.W.keepIn X.K (.ref fa) = true) (hb : Binds X.K fd ps [])
    (hx : Passes CXT' X E0) (h : XAD X K Δ (e :: es) tA av fr gA) (hg : Gl X x := by rfl) (hdb : (x == ("__debug__" : Str)) = false := by decide) (he : starEach (e :: es) X.env = (false, eval e X.env) :: starEach es X.env := by rfl) (hpl : (backTo pos (starEach es X.env)).any (·.1) = false := by rfl) :
    XD X K Δ (.Call (.Name x p) (e :: es) [] pos) (tCall (spL K mg nn gg) [] E0 tA) (.new .l true) (xCallN nn gg gA) := ⟨pe_call F hr hg hm hk hb .nil hx h.pa hdb he hpl, h.hK, sx_callL h.sa⟩
theorem xd_callA {x : Str} {p : Pos} {CXT' : CXT} {kk nn : Nat} {fa : Addr} {fd : FuncData} {ps : List Str} {gg : List Dt → O Dt} {mg : Str → Option Value} (F : FnOk X.prog X.w X.K X.mg X.base CXT' kk fa fd ps (spA K mg nn gg)) (hr : Room kk X.A) (hm : X.mg x = some (.ref fa)) (hk : PySem.W.keepIn X.K (.ref fa) = true) (hb : Binds X.K fd ps [])
    (hx : Passes CXT' X E0) (h : XAD X K Δ (e :: es) tA av fr gA) (hg : Gl X x := by rfl) (hdb : (x == ("__debug__" : Str)) = false := by decide) (he : starEach (e :: es) X.env = (false, eval e X.env) :: starEach es X.env := by rfl) (hpl : (backTo pos (starEach es X.env)).any (·.1) = false := by rfl) :
    XD X K Δ (.Call (.Name x p) (e :: es) [] pos) (tCall (spA K mg nn gg) [] E0 tA) (.v av fr) (xCallN nn gg gA) := ⟨pe_call F hr hg hm hk hb .nil hx h.pa hdb he hpl, h.hK, sx_callA h.sa⟩
theorem xd_callM (i : Nat) {ct c' : Ct} {x y : Str} {p py : Pos} {CXT' : CXT} {kk nn : Nat} {fa : Addr} {fd : FuncData} {ps : List Str} {gg : List Dt → O Dt} (F : FnOk X.prog X.w X.K X.mg X.base CXT' kk fa fd ps (spM K ct nn gg)) (hr : Room kk X.A) (hm : X.mg x = some (.ref fa)) (hk : PySem.W.keepIn X.K (.ref fa) = true) (hb : Binds X.K fd ps [])
    (hx : Passes CXT' X E0) (h : XBD X K Δ i es tA gA) (hi : Δ[i]? = some (.own c' fr') := by rfl) (hc : argOf c' = ct := by rfl) (hN : X.N[i]? = some y := by rfl) (hv : Vis X.env.scope y := by first | exact Or.inl rfl | exact Or.inr (Or.inl rfl) | exact Or.inr (Or.inr rfl)) (hd : (y == ("__debug__" : Str)) = false := by decide) (hcd : (y == ("__classdict__" : Str)) = false := by decide)
    (hg : Gl X x := by rfl) (hdb : (x == ("__debug__" : Str)) = false := by decide) (he : starEach (.Name y py :: es) X.env = (false, eval (.Name y py) X.env) :: starEach es X.env := by rfl) (hpl : (backTo pos (starEach es X.env)).any (·.1) = false := by rfl) :
    XD X K Δ (.Call (.Name x p) (.Name y py :: es) [] pos) (tCall (spM K ct nn gg) [] E0 (tCons (tVar i) tA)) (.v true true) (xCallM ct nn gg i gA) := ⟨pe_call F hr hg hm hk hb .nil hx (pa_cons (pe_var hN hv hd hcd) h.pa he) hdb he hpl, h.hK, sx_callM hi hc h.sb⟩
theorem xd_callML (i : Nat) {ct c' : Ct} {x y : Str} {p py : Pos} {CXT' : CXT} {kk nn : Nat} {fa : Addr} {fd : FuncData} {ps : List Str} {gg : List Dt → O Dt} (F : FnOk X.prog X.w X.K X.mg X.base CXT' kk fa fd ps (spML K ct nn gg)) (hr : Room kk X.A) (hm : X.mg x = some (.ref fa)) (hk : PySem.W.keepIn X.K (.ref fa) = true) (hb : Binds X.K fd ps [])
    (hx : Passes CXT' X E0) (h : XBD X K Δ i es tA gA) (hi : Δ[i]? = some (.own c' fr') := by rfl) (hc : argOf c' = ct := by rfl) (hN : X.N[i]? = some y := by rfl) (hv : Vis X.env.scope y := by first | exact Or.inl rfl | exact Or.inr (Or.inl rfl) | exact Or.inr (Or.inr rfl)) (hd : (y == ("__debug__" : Str)) = false := by decide) (hcd : (y == ("__classdict__" : Str)) = false := by decide)
    (hg : Gl X x := by rfl) (hdb : (x == ("__debug__" : Str)) = false := by decide) (he : starEach (.Name y py :: es) X.env = (false, eval (.Name y py) X.env) :: starEach es X.env := by rfl) (hpl : (backTo pos (starEach es X.env)).any (·.1) = false := by rfl) :
    XD X K Δ (.Call (.Name x p) (.Name y py :: es) [] pos) (tCall (spML K ct nn gg) [] E0 (tCons (tVar i) tA)) (.new .l true) (xCallM ct nn gg i gA) := ⟨pe_call F hr hg hm hk hb .nil hx (pa_cons (pe_var hN hv hd hcd) h.pa he) hdb he hpl, h.hK, sx_callML hi hc h.sb⟩
theorem xd_popAt (i : Nat) {x : Str} {p p1 p2 : Pos} (h : XD X K Δ e te (.v av fr') gx) (hk : Δ[i]? = some (.own .l fr) := by rfl) (hv : Vis X.env.scope x := by first | exact Or.inl rfl | exact Or.inr (Or.inl rfl) | exact Or.inr (Or.inr rfl)) (hN : X.N[i]? = some x := by rfl) (hd : (x == ("__debug__" : Str)) = false := by decide) (hcd : (x == ("__classdict__" : Str)) = false := by decide)
    (hbase : attributeBase (.Name x p) "pop" X.env (eval (.Name x p) X.env) = eval (.Name x p) X.env := by rfl)
    (hfew : ((backTo p2 (starEach [e] X.env)).all (fun x => !x.1) && (backToKw p2 (keywordEach [] X.env)).all (fun x => x.1.isSome)
      && decide ([e].length + ([] : List Keyword).length + (if ([] : List Keyword).isEmpty then 0 else 1) < 30)) = true := by rfl)
    (hline : (p1.endLine == p2.line) = true := by rfl) (hst : starEach [e] X.env = (false, eval e X.env) :: starEach [] X.env := by rfl) (hplain : (backTo p2 (starEach [] X.env)).any (·.1) = false := by rfl) :
    XD X K Δ (.Call (.Attribute (.Name x p) "pop" p1) [e] [] p2) (tBM K "list" rPopAt (tVar i) (tCons te tNil)) (.v true fr) (xPop i gx) :=
  ⟨by have q := pe_bm PySem.F.plainAttrs_list PySem.F.slot_list_pop PySem.F.type_list_pop mt_popAt (pe_var hN hv hd hcd) (pa_cons h.pe pa_nil hst) hbase hfew hline hst hplain; rw [h.hK] at q; exact q, h.hK, sx_popAt hk h.sx⟩
theorem xd_lc {n : Nat} {scope : Scope} (own : List (Str × Nat)) {wi : TI} {gg : TG} {sl : List Nat} {hh : Dt → List Dt → O (List Dt)} {TK : Bool → List Kd → List Kd} (hN : X.N.Nodup) (hi : ID X K W0 Δ tg iter wi false fr gI) (ok : blkC X.N X.env.scope scope own = true)
    (hg : ∀ (s : Shared) (H : Hp) (C : Addr) (cl : List (Str × Addr)) (fp : List Addr), GD (X.blk s H scope (compEnvC scope cl C X.env) fp) K n tg gg sl hh TK)
    (ht : ∀ (s : Shared) (H : Hp) (C : Addr) (cl : List (Str × Addr)) (fp : List Addr), TsD (X.blk s H scope (compEnvC scope cl C X.env) fp) K (TK fr Δ) ifs tt gt0)
    (he : ∀ (s : Shared) (H : Hp) (C : Addr) (cl : List (Str × Addr)) (fp : List Addr), XD (X.blk s H scope (compEnvC scope cl C X.env) fp) K (TK fr Δ) elt te (.v true fr') gx)
    (hn : Δ.length = n := by rfl) (hsl : ∀ i ∈ sl, i ∈ own.map (·.2) := by decide) (no : noOwn Δ (own.map (·.2)) = true := by rfl) (hw : wipeK Δ (own.map (·.2)) = Δ := by rfl) (hle : leA (TK fr Δ) Δ = true := by rfl) (hc : X.calm = true := by rfl) (hs : ∀ x, foldedSetIterable iter X.env x = pure x := by intro _; rfl) :
    XD X K Δ (.ListComp elt [⟨tg, iter, ifs, 0⟩] scope pos) (tLc wi gg tt te (own.map (·.2))) (.new .l fr') (xLc (own.map (·.2)) gI hh gt0 gx) :=
  ⟨pe_lc hc hN hi.pi (blkOk_by ok) (fun s H C cl fp => (hg s H C cl fp).pg) (fun s H C cl fp => (ht s H C cl fp).pts) (fun s H C cl fp => (he s H C cl fp).pe) hs, hi.hK,
    sx_lc hi.si (hg X.s_0 X.H_0 0 [] []).gj hn hsl no hw hle (ht X.s_0 X.H_0 0 [] []).st (he X.s_0 X.H_0 0 [] []).sx⟩

/-! statements -/
theorem x_ownA (i : Nat) {x : Str} (hk : Δ[i]? = some (.own .la fr) := by rfl) (hN : X.N[i]? = some x := by rfl) (hv : Vis X.env.scope x := by first | exact Or.inl rfl | exact Or.inr (Or.inl rfl) | exact Or.inr (Or.inr rfl)) (hd : (x == ("__debug__" : Str)) = false := by decide)
    (hcd : (x == ("__classdict__" : Str)) = false := by decide) (hK : X.K = K := by rfl) : PD X K W Δ (.Name x pos) (tVar i) (.o fr) (gVar i) := ⟨pe_var hN hv hd hcd, hK, se_ownA hk⟩
theorem z_setIA (i : Nat) {x : Str} {p : Pos} {ix : Expr} {sp : Pos} (h : PD X K W Δ e te (.v true fr') ge) (h2 : PD X K W Δ ix ti (.v av av') gi) (hk : Δ[i]? = some (.own .la fr) := by rfl) (hv : Vis X.env.scope x := by first | exact Or.inl rfl | exact Or.inr (Or.inl rfl) | exact Or.inr (Or.inr rfl)) (hN : X.N[i]? = some x := by rfl) (hd : (x == ("__debug__" : Str)) = false := by decide) (hcd : (x == ("__classdict__" : Str)) = false := by decide)
    (ha : ∀ v, assign (.Subscript (.Name x p) ix sp) X.env v = (do
      let ov ← holding [v] (eval (.Name x p) X.env)
      let iv ← holding [v, ov] (eval ix X.env)
      standAt sp
      holding [v, ov, iv] (setItem ov iv v)
      release [v, ov, iv] []) := by intro _; rfl) (hs : swapsWithSole [.Subscript (.Name x p) ix sp] e pos.line X.env = pure false := by rfl) (hw : swappedStores [.Subscript (.Name x p) ix sp] e X.env = pure none := by rfl)
    (h1 : (assignEach [.Subscript (.Name x p) ix sp] X.env).map (·.2) = [assign (.Subscript (.Name x p) ix sp) X.env] := by rfl) :
    SD X K W L Δ (Δ.set i (.own .la (fr && fr'))) Δb Δc (.Assign [.Subscript (.Name x p) ix sp] e pos) (tAsg te (gSub (tVar i) ti rSetL)) (gSetI i ge gi) := ⟨ps_asg h.pe (pg_sub (pe_var hN hv hd hcd) h2.pe set_list ha) hs hw h1, h.hK, s_setIA hk h.se h2.se⟩
theorem zx_set (i : Nat) {x : Str} (hN : X.N.Nodup) (h : XD X K Δ e te (.v true fr) gx) (hn : i < Δ.length := by decide) (hi : X.N[i]? = some x := by rfl) (hx : Loc X.env.scope x := by first | exact .inl rfl | exact .inr rfl) (hs : swapsWith e (some (.Name x pos')) pos.line X.env = pure false := by rfl) (hf : X.fn x = true ∨ X.env.scope.names.lookup x = some .local := by first | exact .inl rfl | exact .inr rfl) :
    SD X K W L Δ (Δ.set i (.im fr)) Δb Δc (.Assign [.Name x pos'] e pos) (tAsg te (gName i)) (xSet i gx) := ⟨ps_set hN hi hx h.pe hs hf, h.hK, s_setX hn h.sx⟩
theorem zx_setO (i : Nat) {x : Str} {ct : Ct} (hN : X.N.Nodup) (h : XD X K Δ e te (.new ct fr) gx) (hn : i < Δ.length := by decide) (hct : isArg ct = false := by rfl) (hi : X.N[i]? = some x := by rfl) (hx : Loc X.env.scope x := by first | exact .inl rfl | exact .inr rfl) (hs : swapsWith e (some (.Name x pos')) pos.line X.env = pure false := by rfl) (hf : X.fn x = true ∨ X.env.scope.names.lookup x = some .local := by first | exact .inl rfl | exact .inr rfl) :
    SD X K W L Δ (Δ.set i (.own ct fr)) Δb Δc (.Assign [.Name x pos'] e pos) (tAsg te (gName i)) (xSet i gx) := ⟨ps_set hN hi hx h.pe hs hf, h.hK, s_setOX hn h.sx hct⟩
theorem zx_asg {n : Nat} {gg : TG} {sl : List Nat} {hh : Dt → List Dt → O (List Dt)} {TK : Bool → List Kd → List Kd} (h : XD X K Δ e te (.v true fr) gx) (hg : GD X K n tg gg sl hh TK) (hn : Δ.length = n := by rfl) (hs : swapsWithSole [tg] e pos.line X.env = pure false := by rfl) (hw : swappedStores [tg] e X.env = pure none := by rfl)
    (h1 : (assignEach [tg] X.env).map (·.2) = [assign tg X.env] := by rfl) : SD X K W L Δ (TK fr Δ) Δb Δc (.Assign [tg] e pos) (tAsg te gg) (xAsg gx hh) := ⟨ps_asg h.pe hg.pg hs hw h1, h.hK, s_asgX hn h.sx hg.gj⟩
theorem zx_expr (h : XD X K Δ e te (.v av fr) gx) (hs : swapsWith e none pos.line X.env = pure false := by rfl) : SD X K W L Δ Δ Δb Δc (.Expr e pos) (tDrop te) (xDrop gx) := ⟨ps_expr h.pe hs, h.hK, s_dropX h.sx⟩
theorem zx_if (h : XTD X K Δ c tt gt) (h1 : BD X K W L Δ Δn Δb Δc sts t g1) (h2 : BD X K W L Δ Δn Δb Δc sts2 u g2) : SD X K W L Δ Δn Δb Δc (.If c sts sts2 pos) (tIfS tt t u) (xIfS gt g1 g2) := ⟨ps_if h.pt h1.ps h2.ps, h.hK, s_ifX h.st h1.ss h2.ss⟩
theorem zx_ret (h : XD X K Δ e te (.v av true) gx) : SD X K W .n Δ Δn Δb Δc (.Return (some e) pos) (tRet te) (xRet gx) := ⟨ps_ret h.pe, h.hK, s_retX h.sx⟩
theorem zx_retM {ct : Ct} {fr0 : Bool} (h : XD X K Δ e te (.v true true) gx) (hk : Δ[0]? = some (.own ct fr0) := by rfl) (hc : isArg ct = true := by rfl) : SD X K W .m Δ Δn Δb Δc (.Return (some e) pos) (tRet te) (xRetM gx) := ⟨ps_ret h.pe, h.hK, s_retM hk hc h.sx⟩
theorem zx_retML {ct : Ct} {fr0 : Bool} (h : XD X K Δ e te (.new .l true) gx) (hk : Δ[0]? = some (.own ct fr0) := by rfl) (hc : isArg ct = true := by rfl) : SD X K W .ml Δ Δn Δb Δc (.Return (some e) pos) (tRet te) (xRetM gx) := ⟨ps_ret h.pe, h.hK, s_retML hk hc h.sx⟩
theorem zx_retMO (i : Nat) {ct : Ct} {fr0 : Bool} {x : Str} {p : Pos} (hi : Δ[i]? = some (.own .l true) := by rfl) (hk : Δ[0]? = some (.own ct fr0) := by rfl) (hc : isArg ct = true := by rfl) (hN : X.N[i]? = some x := by rfl) (hv : Vis X.env.scope x := by first | exact Or.inl rfl | exact Or.inr (Or.inl rfl) | exact Or.inr (Or.inr rfl)) (hd : (x == ("__debug__" : Str)) = false := by decide)
    (hcd : (x == ("__classdict__" : Str)) = false := by decide) (hK : X.K = K := by rfl) : SD X K W .ml Δ Δn Δb Δc (.Return (some (.Name x p)) pos) (tRet (tVar i)) (xRetMO i) := ⟨ps_ret (pe_var hN hv hd hcd), hK, s_retMO hk hc hi⟩
theorem zx_app (i : Nat) {x : Str} {p p1 p2 : Pos} (h : XD X K Δ e te (.v true fr') gx) (hk : Δ[i]? = some (.own .l fr) := by rfl) (hv : Vis X.env.scope x := by first | exact Or.inl rfl | exact Or.inr (Or.inl rfl) | exact Or.inr (Or.inr rfl)) (hN : X.N[i]? = some x := by rfl) (hd : (x == ("__debug__" : Str)) = false := by decide) (hcd : (x == ("__classdict__" : Str)) = false := by decide)
    (hbase : attributeBase (.Name x p) "append" X.env (eval (.Name x p) X.env) = eval (.Name x p) X.env := by rfl)
    (hfew : ((backTo p2 (starEach [e] X.env)).all (fun x => !x.1) && (backToKw p2 (keywordEach [] X.env)).all (fun x => x.1.isSome)
      && decide ([e].length + ([] : List Keyword).length + (if ([] : List Keyword).isEmpty then 0 else 1) < 30)) = true := by rfl)
    (hline : (p1.endLine == p2.line) = true := by rfl) (hst : starEach [e] X.env = (false, eval e X.env) :: starEach [] X.env := by rfl) (hplain : (backTo p2 (starEach [] X.env)).any (·.1) = false := by rfl)
    (hs : swapsWith (.Call (.Attribute (.Name x p) "append" p1) [e] [] p2) none pos.line X.env = pure false := by rfl) :
    SD X K W L Δ (Δ.set i (.own .l (fr && fr'))) Δb Δc (.Expr (.Call (.Attribute (.Name x p) "append" p1) [e] [] p2) pos) (tDrop (tBM K "list" rAppend (tVar i) (tCons te tNil))) (xApp i gx) :=
  ⟨by have q := ps_expr (pos := pos) (pe_bm PySem.F.plainAttrs_list PySem.F.slot_list_append PySem.F.type_list_append mt_append (pe_var hN hv hd hcd) (pa_cons h.pe pa_nil hst) hbase hfew hline hst hplain) hs; rw [h.hK] at q; exact q, h.hK, s_appX hk h.sx⟩
theorem zx_for1 {n : Nat} {gg : TG} {sl : List Nat} {hh : Dt → List Dt → O (List Dt)} {TK : Bool → List Kd → List Kd} {p : Pos} (hp : PassesOwn (model X.prog X.w) X.A X.env X.xe) (hm : X.mg "range" = none) (h : XAD X K Δ [a] tA av fr gA) (hg : GD X K n tg gg sl hh TK) (hb : BD X K W L (TK true Δ) Δ Δ Δ sts t g1) (hn : Δ.length = n := by rfl) (hc : X.calm = true := by rfl)
    (hgl : Gl X "range" := by rfl) (hst : starEach [a] X.env = [(false, eval a X.env)] := by rfl) (hs : ∀ x, foldedSetIterable (.Call (.Name "range" p) [a] [] pos') X.env x = pure x := by intro _; rfl) : SD X K W L Δ Δ Δb Δc (.For tg (.Call (.Name "range" p) [a] [] pos') sts [] pos) (tFor (iRng1 tA) gg t) (xFor (xRng1 gA) hh g1) :=
  ⟨ps_for hp hc (pi_range1 hgl hm h.pa hst) hg.pg hb.ps hs, h.hK, s_forX hn h.sa hg.gj hb.ss⟩
end
/-! ### plain -/
theorem bx_ok {α β : Type} (a : α) (f : α → O β) : bx (.ok a) f = f a := rfl
theorem xP_def (g : Gd) (ρ : List Dt) : xP g ρ = bnd (g ρ) fun d => .ok (d, ρ) := rfl
theorem xPT_def (g : List Dt → O Bool) (ρ : List Dt) : xPT g ρ = bnd (g ρ) fun d => .ok (d, ρ) := rfl
theorem xPA_def (g : List Dt → O (List Dt)) (ρ : List Dt) : xPA g ρ = bnd (g ρ) fun d => .ok (d, ρ) := rfl
theorem xOp_def (h : Dt → Dt → O Dt) (a b : Gx) (ρ : List Dt) : xOp h a b ρ = bnd (a ρ) fun x => bnd (b x.2) fun y => bnd (h x.1 y.1) fun z => .ok (z, y.2) := rfl
theorem xNil_def (ρ : List Dt) : xNil ρ = .ok ([], ρ) := rfl
theorem xCons_def (a : Gx) (b : List Dt → O (List Dt × List Dt)) (ρ : List Dt) : xCons a b ρ = bnd (a ρ) fun x => bnd (b x.2) fun y => .ok (x.1 :: y.1, y.2) := rfl
theorem xCB_def (h : List Dt → O Dt) (a : List Dt → O (List Dt × List Dt)) (ρ : List Dt) : xCB h a ρ = bnd (a ρ) fun x => bnd (h x.1) fun z => .ok (z, x.2) := rfl
theorem xTest_def (a : Gx) (ρ : List Dt) : xTest a ρ = bnd (a ρ) fun x => bnd (asB x.1) fun b => .ok (b, x.2) := rfl
theorem xNot_def (t : List Dt → O (Bool × List Dt)) (ρ : List Dt) : xNot t ρ = bnd (t ρ) fun x => .ok (!x.1, x.2) := rfl
theorem xAnd_def (t u : List Dt → O (Bool × List Dt)) (ρ : List Dt) : xAnd t u ρ = bnd (t ρ) fun x => if x.1 then u x.2 else .ok (false, x.2) := rfl
theorem xOr_def (t u : List Dt → O (Bool × List Dt)) (ρ : List Dt) : xOr t u ρ = bnd (t ρ) fun x => if x.1 then .ok (true, x.2) else u x.2 := rfl
theorem xSet_def (i : Nat) (g : Gx) (ρ : List Dt) : xSet i g ρ = bx (g ρ) fun x => .ok (.nx (x.2.set i x.1)) := rfl
theorem xIfS_def (t : List Dt → O (Bool × List Dt)) (a b : Gs) (ρ : List Dt) : xIfS t a b ρ = bx (t ρ) fun x => if x.1 then a x.2 else b x.2 := rfl
theorem xIf_t {t : List Dt → O (Bool × List Dt)} {a b : Gs} {ρ ρ' : List Dt} (h : t ρ = .ok (true, ρ')) : xIfS t a b ρ = a ρ' := by unfold xIfS; rw [h]; rfl
theorem xIf_f {t : List Dt → O (Bool × List Dt)} {a b : Gs} {ρ ρ' : List Dt} (h : t ρ = .ok (false, ρ')) : xIfS t a b ρ = b ρ' := by unfold xIfS; rw [h]; rfl
theorem xset_ok {i : Nat} {g : Gx} {ρ ρ' : List Dt} {d : Dt} (h : g ρ = .ok (d, ρ')) : xSet i g ρ = .ok (.nx (ρ'.set i d)) := by unfold xSet; rw [h]; rfl
theorem xasg_ok {g : Gx} {h : Dt → List Dt → O (List Dt)} {ρ ρ1 ρ2 : List Dt} {d : Dt} (h1 : g ρ = .ok (d, ρ1)) (h2 : h d ρ1 = .ok ρ2) : xAsg g h ρ = .ok (.nx ρ2) := by
  unfold xAsg
  rw [h1, bx_ok, h2]
theorem xret_ok {g : Gx} {ρ ρ' : List Dt} {d e : Dt} (h : g ρ = .ok (d, ρ')) (h2 : ρ'[0]? = some e) (h3 : argD e = true) : xRetM g ρ = .ok (.rt (.tuple [d, e])) := by
  unfold xRetM
  rw [h, bx_ok]
  simp only [h2, h3, if_true]
theorem xretO_ok {i : Nat} {ρ : List Dt} {d e : Dt} (h : ρ[i]? = some d) (h2 : ρ[0]? = some e) (h3 : argD e = true) : xRetMO i ρ = .ok (.rt (.tuple [d, e])) := by
  unfold xRetMO
  simp only [h, h2, h3, if_true]
theorem xapp_ok {i : Nat} {g : Gx} {ρ ρ' ds : List Dt} {d : Dt} (h : g ρ = .ok (d, ρ')) (h1 : ρ'[i]? = some (.list ds)) (h3 : ds.length < 100000) : xApp i g ρ = .ok (.nx (ρ'.set i (.list (ds ++ [d])))) := by
  unfold xApp
  rw [h, bx_ok]
  simp only [h1, if_pos h3]
theorem xdrop_ok {g : Gx} {ρ ρ' : List Dt} {d : Dt} (h : g ρ = .ok (d, ρ')) : xDrop g ρ = .ok (.nx ρ') := by unfold xDrop; rw [h]; rfl
theorem xcallM_ok {c : Ct} {n : Nat} {g : List Dt → O Dt} {i : Nat} {gA : List Dt → O (List Dt × List Dt)} {ρ ρ' ds : List Dt} {a r e : Dt} (h1 : gA ρ = .ok (ds, ρ')) (h2 : ds.length + 1 = n) (h3 : ρ'[i]? = some a) (h4 : argK c a = true) (h5 : g (a :: ds) = .ok (.tuple [r, e])) (h6 : argK c e = true) :
    xCallM c n g i gA ρ = .ok (r, ρ'.set i e) := by
  unfold xCallM
  rw [h1, bnd_ok]
  simp only [h2, h3, h4, h5, h6, if_true]
theorem xcallN_ok {n : Nat} {g : List Dt → O Dt} {gA : List Dt → O (List Dt × List Dt)} {ρ ρ' ds : List Dt} {d : Dt} (h1 : gA ρ = .ok (ds, ρ')) (h2 : ds.length = n) (h3 : g ds = .ok d) : xCallN n g gA ρ = .ok (d, ρ') := by
  unfold xCallN
  rw [h1, bnd_ok]
  simp only [h2, h3, if_true]
theorem xfor_ok {gi : List Dt → O (List Dt × List Dt)} {h : Dt → List Dt → O (List Dt)} {b : Gs} {ρ ρ' ds : List Dt} {z : O Fl} (h1 : gi ρ = .ok (ds, ρ')) (h2 : forE h b ds ρ' = z) : xFor gi h b ρ = z := by unfold xFor; rw [h1, bx_ok, h2]
theorem xrng1_ok {g : List Dt → O (List Dt × List Dt)} {ρ ρ' : List Dt} {j : Int} (h : g ρ = .ok ([.int j], ρ')) (h1 : -4611686018427387904 ≤ j) (h2 : j < 4611686018427387904) : xRng1 g ρ = .ok (rangeD 0 j, ρ') := by
  unfold xRng1
  rw [h, bx_ok]
  unfold rng1
  simp only
  rw [if_pos (by constructor <;> omega)]
theorem sclA_ints : ∀ xs : List Int, sclA (xs.map .int) = true
  | [] => rfl
  | x :: xs => by rw [List.map_cons]; unfold sclA; rw [sclA_ints xs]; rfl
end Sim
end T_SimO

section T_SimQ
set_option Elab.async false
set_option linter.all false
set_option maxRecDepth 100000
/-! SimQ: products of great ints, range with a positive step, a new list changed by a def and let go. -/
namespace Sim
open PySem PySem.Spec L2
open PyProof.Rows hiding St

/-! ### products of great ints -/
def cMulW (i j : Int) : Bool := decide (i.natAbs.log2 + j.natAbs.log2 < 1000000)
def hMulW := hI cMulW fun i j => i * j
theorem cMulW_ok {i j : Int} (h : cMulW i j = true) : CMulW i j := by
  unfold cMulW at h
  exact (of_decide_eq_true h : i.natAbs.log2 + j.natAbs.log2 < 1000000)
theorem x_mulW {X : Cx} {K : PySem.W.Frag} {W : Wt} {Δ : List Kd} {a b : Expr} {ta tb : TE} {ga gb : Gd} {av fr av' fr' : Bool} {pos : Pos} (ha : PD X K W Δ a ta (.v av fr) ga) (hb : PD X K W Δ b tb (.v av' fr') gb) : PD X K W Δ (.BinOp a .Mult b pos) (tOp (rI CMulW fun i j => .int (i * j)) ta tb) (.v true true) (gOp hMulW ga gb) := ⟨pe_op op_mulW ha.pe hb.pe, ha.hK, se_op scl_I (osc_I fun _ _ => cMulW_ok) ha.se hb.se⟩
theorem hMulW_i {i j : Int} (h : i.natAbs.log2 + j.natAbs.log2 < 1000000) : hMulW (.int i) (.int j) = .ok (.int (i * j)) := by
  show (if cMulW i j then O.ok (PyData.int (i * j)) else .bad) = _
  rw [if_pos]
  exact decide_eq_true h

/-! ### range(i, j, c) -/
def rng3p : List Dt → Option (Int × Int × Nat)
  | [.int i, .int j, .int c] => if c ≠ 0 ∧ c.natAbs < 1073741824 ∧ Builtin.Range.small i j c = true ∧ Builtin.Range.rangeSize i j c = ((Builtin.Range.rangeSize i j c).toNat : Int) then some (i, c, (Builtin.Range.rangeSize i j c).toNat) else none
  | _ => none
theorem rng3p_inv {ds : List Dt} {p : Int × Int × Nat} (h : rng3p ds = some p) : ∃ j, ds = [.int p.1, .int j, .int p.2.1] ∧ RgC p.1 j p.2.1 p.2.2 := by
  unfold rng3p at h
  split at h
  · split at h
    · rename_i c
      cases h
      exact ⟨_, rfl, c.1, c.2.1, c.2.2.1, c.2.2.2⟩
    · cases h
  · cases h
def stepD (i c : Int) (n : Nat) : List Dt := (List.range n).map fun (k : Nat) => .int (i + (k : Int) * c)
def gRng3p (g : List Dt → O (List Dt)) : List Dt → O (List Dt) := fun ρ => bnd (g ρ) fun ds => match rng3p ds with
  | some p => .ok (stepD p.1 p.2.1 p.2.2)
  | none => .bad
section
variable {K : PySem.W.Frag} {W : Wt} {Δ : List Kd}
theorem stepD_len (i c : Int) (n : Nat) : (stepD i c n).length = n := by unfold stepD; simp
theorem sc_step {i c : Int} {n : Nat} : Sc K (Itc i c n) none [] [] (stepD i c n) where
  goes := fun k H hi' _ => by rw [stepD_len] at hi'; exact hi'
  stops := fun H _ => by rw [stepD_len]; exact Nat.le_refl _
  yields := fun k H x H' hi' _ y => by
    obtain ⟨e, y⟩ := y
    subst e y
    refine ⟨Same.refl _, fun F r => ⟨_, ?_, .int _⟩⟩
    rw [stepD_len] at hi'
    unfold stepD
    rw [List.getElem?_map, List.getElem?_range hi']
    rfl
theorem si_rng3p {tA : TA} {gA : List Dt → O (List Dt)} {av fr : Bool} (h : SA K W Δ tA av fr gA) : SI K W Δ (iRng3 tA) false true (gRng3p gA) := fun f ρ σ H Rk R q => by
  refine h f ρ σ H _ R ?_
  unfold gRng3p at q
  cases e1 : gA ρ with
  | bad => rw [e1] at q; exact q
  | ex z => rw [e1] at q; exact q
  | ok ds =>
    rw [e1, bnd_ok] at q
    intro vs H1 s1 x1
    cases er : rng3p ds with
    | none => rw [er] at q; exact q.elim
    | some p =>
      rw [er] at q
      obtain ⟨j, e, hc⟩ := rng3p_inv er
      subst e
      cases x1 with
      | cons x1 xr =>
        cases xr with
        | cons x2 xr =>
          cases xr with
          | cons x3 xr =>
            cases xr
            rw [rpInt x1, rpInt x2, rpInt x3]
            exact ⟨p.1, j, p.2.1, p.2.2, rfl, hc, q _ H1 none [] [] s1 (fun _ => rfl) (fun _ e => nomatch e) .nil sc_step⟩
theorem i_rng3p {X : Cx} {tg a b c : Expr} {tA : TA} {gA : List Dt → O (List Dt)} {av fr : Bool} {pos p : Pos} (hm : X.mg "range" = none) (h : AD X K W Δ [a, b, c] tA av fr gA) (hg : Gl X "range" := by rfl)
    (hs : starEach [a, b, c] X.env = (false, eval a X.env) :: starEach [b, c] X.env := by rfl) (hpl : (backTo pos (starEach [b, c] X.env)).any (·.1) = false := by rfl) : ID X K W Δ tg (.Call (.Name "range" p) [a, b, c] [] pos) (iRng3 tA) false true (gRng3p gA) := ⟨pi_range3 hg hm h.pa hs hpl, h.hK, si_rng3p h.sa⟩
end

/-! ### a new list handed to a def that changes it -/
def gCallT (c : Ct) (n : Nat) (g : List Dt → O Dt) (ga : Gd) (gA : List Dt → O (List Dt)) : Gd := fun ρ => bnd (ga ρ) fun a => bnd (gA ρ) fun ds => if ds.length + 1 = n ∧ argK c a = true then (match g (a :: ds) with
  | .ok (.tuple [r, _]) => .ok r
  | _ => .bad) else .bad
section
variable {K : PySem.W.Frag} {W : Wt} {Δ : List Kd} {ta : TE} {tA : TA} {ga : Gd} {gA : List Dt → O (List Dt)} {fr fr' : Bool} {n : Nat} {g : List Dt → O Dt}
theorem se_callT (ha : SE K W Δ ta (.new .l fr) ga) (hr : SA K W Δ tA true fr' gA) : SE K W Δ (tCall (spM K .la n g) [] E0 (tCons ta tA)) (.v true true) (gCallT .la n g ga gA) := fun f ρ σ H Q r q => by
  refine ha f ρ σ H _ r ?_
  unfold gCallT at q
  cases e1 : ga ρ with
  | bad => rw [e1] at q; exact q
  | ex z => rw [e1] at q; exact q
  | ok a =>
    rw [e1, bnd_ok] at q
    intro p H1 np s1 x1
    have rp := r.pinNew np s1 x1.mutb
    refine hr _ ρ σ H1 _ rp ?_
    cases e2 : gA ρ with
    | bad => rw [e2] at q; exact q
    | ex z => rw [e2] at q; exact fun H' s => q H' (s1.trans s)
    | ok ds =>
      rw [e2, bnd_ok] at q
      intro vs H2 s2 x2
      by_cases hn : ds.length + 1 = n ∧ argK .la a = true
      · rw [if_pos hn] at q
        rw [List.append_nil]
        have harg : ArgAt K H2 p a := argAt_of (c' := .l) rfl (x1.map (fun o e => s2 _ _ e) fun _ _ y => y.same s2) hn.2
        refine ⟨p, vs, a, ds, rfl, by rw [List.length_cons, x2.length]; exact hn.1, hn.2, harg, x2.weak fun b fb z => (fb.1 rfl).2 (z ▸ List.mem_cons_self), ?_⟩
        cases e3 : g (a :: ds) with
        | bad => rw [e3] at q; exact q.elim
        | ex z => rw [e3] at q; exact q.elim
        | ok z =>
          rw [e3] at q
          split at q
          · rename_i r' e ez
            cases ez
            intro v H' keep arg x
            have sH : Same H H' := fun b o eb => keep b o (fun z => by rw [z, np] at eb; cases eb) (s2 _ _ (s1 _ _ eb))
            refine q v H' sH (x.weak fun b nb => ?_)
            obtain ⟨f1, f2, f3⟩ := r.fresh ((s1.trans s2).free nb)
            exact ⟨fun _ => ⟨f1, f2⟩, fun _ => r.g0 b f3⟩
          · exact q.elim
      · rw [if_neg hn] at q
        exact q.elim
theorem se_callTL (ha : SE K W Δ ta (.new .l fr) ga) (hr : SA K W Δ tA true fr' gA) : SE K W Δ (tCall (spML K .la n g) [] E0 (tCons ta tA)) (.new .l true) (gCallT .la n g ga gA) := fun f ρ σ H Q r q => by
  refine ha f ρ σ H _ r ?_
  unfold gCallT at q
  cases e1 : ga ρ with
  | bad => rw [e1] at q; exact q
  | ex z => rw [e1] at q; exact q
  | ok a =>
    rw [e1, bnd_ok] at q
    intro p H1 np s1 x1
    have rp := r.pinNew np s1 x1.mutb
    refine hr _ ρ σ H1 _ rp ?_
    cases e2 : gA ρ with
    | bad => rw [e2] at q; exact q
    | ex z => rw [e2] at q; exact fun H' s => q H' (s1.trans s)
    | ok ds =>
      rw [e2, bnd_ok] at q
      intro vs H2 s2 x2
      by_cases hn : ds.length + 1 = n ∧ argK .la a = true
      · rw [if_pos hn] at q
        rw [List.append_nil]
        have harg : ArgAt K H2 p a := argAt_of (c' := .l) rfl (x1.map (fun o e => s2 _ _ e) fun _ _ y => y.same s2) hn.2
        refine ⟨p, vs, a, ds, rfl, by rw [List.length_cons, x2.length]; exact hn.1, hn.2, harg, x2.weak fun b fb z => (fb.1 rfl).2 (z ▸ List.mem_cons_self), ?_⟩
        cases e3 : g (a :: ds) with
        | bad => rw [e3] at q; exact q.elim
        | ex z => rw [e3] at q; exact q.elim
        | ok z =>
          rw [e3] at q
          split at q
          · rename_i r' e ez
            cases ez
            intro l H' nlp nl keep arg x
            have sH : Same H H' := fun b o eb => keep b o (fun z => by rw [z, np] at eb; cases eb) (s2 _ _ (s1 _ _ eb))
            refine q l H' ((s1.trans s2).free nl) sH (x.map (fun _ e => e) fun _ _ y => y.weak fun b nb => ?_)
            obtain ⟨f1, f2, f3⟩ := r.fresh ((s1.trans s2).free nb.1)
            exact ⟨⟨fun _ => ⟨f1, f2⟩, fun _ => r.g0 b f3⟩, nb.2⟩
          · exact q.elim
      · rw [if_neg hn] at q
        exact q.elim
end
section
variable {X : Cx} {K : PySem.W.Frag} {W : Wt} {Δ : List Kd} {e : Expr} {es : List Expr} {ta : TE} {tA : TA} {ga : Gd} {gA : List Dt → O (List Dt)} {fr fr' : Bool} {pos : Pos}
theorem x_callT {x : Str} {p : Pos} {CXT' : CXT} {kk nn : Nat} {fa : Addr} {fd : FuncData} {ps : List Str} {gg : List Dt → O Dt} (F : FnOk X.prog X.w X.K X.mg X.base CXT' kk fa fd ps (spM K .la nn gg)) (hr : Room kk X.A) (hm : X.mg x = some (.ref fa)) (hk : PySem.W.keepIn X.K (.ref fa) = true) (hb : Binds X.K fd ps [])
    (hx : Passes CXT' X E0) (ha : PD X K W Δ e ta (.new .l fr) ga) (h : AD X K W Δ es tA true fr' gA) (hg : Gl X x := by rfl) (hdb : (x == ("__debug__" : Str)) = false := by decide) (he : starEach (e :: es) X.env = (false, eval e X.env) :: starEach es X.env := by rfl) (hpl : (backTo pos (starEach es X.env)).any (·.1) = false := by rfl) :
    PD X K W Δ (.Call (.Name x p) (e :: es) [] pos) (tCall (spM K .la nn gg) [] E0 (tCons ta tA)) (.v true true) (gCallT .la nn gg ga gA) := ⟨pe_call F hr hg hm hk hb .nil hx (pa_cons ha.pe h.pa he) hdb he hpl, h.hK, se_callT ha.se h.sa⟩
theorem x_callTL {x : Str} {p : Pos} {CXT' : CXT} {kk nn : Nat} {fa : Addr} {fd : FuncData} {ps : List Str} {gg : List Dt → O Dt} (F : FnOk X.prog X.w X.K X.mg X.base CXT' kk fa fd ps (spML K .la nn gg)) (hr : Room kk X.A) (hm : X.mg x = some (.ref fa)) (hk : PySem.W.keepIn X.K (.ref fa) = true) (hb : Binds X.K fd ps [])
    (hx : Passes CXT' X E0) (ha : PD X K W Δ e ta (.new .l fr) ga) (h : AD X K W Δ es tA true fr' gA) (hg : Gl X x := by rfl) (hdb : (x == ("__debug__" : Str)) = false := by decide) (he : starEach (e :: es) X.env = (false, eval e X.env) :: starEach es X.env := by rfl) (hpl : (backTo pos (starEach es X.env)).any (·.1) = false := by rfl) :
    PD X K W Δ (.Call (.Name x p) (e :: es) [] pos) (tCall (spML K .la nn gg) [] E0 (tCons ta tA)) (.new .l true) (gCallT .la nn gg ga gA) := ⟨pe_call F hr hg hm hk hb .nil hx (pa_cons ha.pe h.pa he) hdb he hpl, h.hK, se_callTL ha.se h.sa⟩
end
theorem callT_ok {c : Ct} {n : Nat} {g : List Dt → O Dt} {ga : Gd} {gA : List Dt → O (List Dt)} {ρ ds : List Dt} {a r e : Dt} (h1 : ga ρ = .ok a) (h2 : gA ρ = .ok ds) (h3 : ds.length + 1 = n) (h4 : argK c a = true) (h5 : g (a :: ds) = .ok (.tuple [r, e])) : gCallT c n g ga gA ρ = .ok r := by
  unfold gCallT
  rw [h1, bnd_ok, h2, bnd_ok, if_pos ⟨h3, h4⟩, h5]
end Sim
end T_SimQ

section T_SimR
set_option Elab.async false
set_option linter.all false
set_option maxRecDepth 100000
/-! SimR: xs.remove(k), chains of three comparisons. -/
namespace Sim
open PySem PySem.Spec L2
open PyProof.Rows hiding St

/-! ### xs.remove(k) -/
def gRem (i : Nat) (g : Gd) : Gs := fun ρ => match ρ[i]? with
  | some (.list ds) => bnd (g ρ) fun d => (match allI ds, d with
    | some ns, .int k => if k ∈ ns then .ok (.nx (ρ.set i (.list ((ns.eraseIdx (ns.idxOf k)).map .int)))) else .bad
    | _, _ => .bad)
  | _ => .bad
theorem idxOf_get {k : Int} : ∀ {ns : List Int}, k ∈ ns → ns[ns.idxOf k]? = some k ∧ ∀ m : Nat, m < ns.idxOf k → ns[m]? ≠ some k
  | n :: ns, h => by
    by_cases e : n = k
    · subst e
      rw [List.idxOf_cons_self]
      exact ⟨rfl, fun m hm => absurd hm (Nat.not_lt_zero _)⟩
    · have e' : (n == k) = false := beq_eq_false_iff_ne.mpr e
      rw [List.idxOf_cons, e', cond_false]
      obtain ⟨h1, h2⟩ := idxOf_get (ns := ns) ((List.mem_cons.mp h).resolve_left fun z => e z.symm)
      refine ⟨h1, fun m hm => ?_⟩
      cases m with
      | zero => exact fun z => e (Option.some.inj z)
      | succ m => exact h2 m (by omega)
theorem rpA_intsOf {K : PySem.W.Frag} {F : Addr → Prop} {H : Hp} : ∀ ns : List Int, RpA K F H (ns.map V.int) (ns.map .int)
  | [] => .nil
  | n :: ns => .cons (.int n) (rpA_intsOf ns)
section
variable {K : PySem.W.Frag} {W : Wt} {L : Lk} {Δ Δb Δc : List Kd} {te : TE} {g : Gd} {fr av fr' : Bool} {i : Nat}
theorem s_rem (hk : Δ[i]? = some (.own .l fr)) (h : SE K W Δ te (.v av fr') g) : SS K W L Δ (Δ.set i (.own .l true)) Δb Δc (tDrop (tBM K "list" rRemI (tVar i) (tCons te tNil))) (gRem i g) := fun f ρ σ H E r q => by
  obtain ⟨p, d, h1, h2, h3, vs, ds, ed, h4, h5⟩ := r.ow i .l fr hk
  subst ed
  unfold gRem at q
  rw [h2] at q
  simp only at q
  refine ⟨_, h1, .inl ⟨rfl, _, .inl (.inl h4)⟩, h f ρ σ H _ r ?_⟩
  cases e : g ρ with
  | bad => rw [e] at q; exact q
  | ex z => rw [e] at q; exact fun H' s => q σ H' (r.ext.trans s)
  | ok d =>
    rw [e, bnd_ok] at q
    intro v H1 s x
    cases ea : allI ds with
    | none => rw [ea] at q; exact q.elim
    | some ns =>
      rw [ea] at q
      cases d with
      | int k =>
        simp only at q
        by_cases hm : k ∈ ns
        · rw [if_pos hm] at q
          have hp := s _ _ h4
          have ev := rp_ints h5 ea
          obtain ⟨g1, g2⟩ := idxOf_get hm
          rw [rpInt x]
          subst ev
          refine ⟨p, ns, k, ns.idxOf k, rfl, rfl, hp, g1, g2, q σ _ ?_⟩
          exact (r.mono s).updOwn hk h1 (c' := .l) (show Mutb (.lst _) from trivial) ⟨_, _, rfl, upd_same, rpA_intsOf _⟩
        · rw [if_neg hm] at q
          exact q.elim
      | _ => exact q.elim
end
section
variable {X : Cx} {K : PySem.W.Frag} {W : Wt} {Δ Δb Δc : List Kd} {e : Expr} {te : TE} {g : Gd} {av fr fr' : Bool} {L : Lk} {pos : Pos}
theorem z_rem (i : Nat) {x : Str} {p p1 p2 : Pos} (h : PD X K W Δ e te (.v av fr') g) (hk : Δ[i]? = some (.own .l fr) := by rfl) (hv : Vis X.env.scope x := by first | exact Or.inl rfl | exact Or.inr (Or.inl rfl) | exact Or.inr (Or.inr rfl)) (hN : X.N[i]? = some x := by rfl) (hd : (x == ("__debug__" : Str)) = false := by decide) (hcd : (x == ("__classdict__" : Str)) = false := by decide)
    (hbase : attributeBase (.Name x p) "remove" X.env (eval (.Name x p) X.env) = eval (.Name x p) X.env := by rfl)
    (hfew : ((backTo p2 (starEach [e] X.env)).all (fun x => !x.1) && (backToKw p2 (keywordEach [] X.env)).all (fun x => x.1.isSome)
      && decide ([e].length + ([] : List Keyword).length + (if ([] : List Keyword).isEmpty then 0 else 1) < 30)) = true := by rfl)
    (hline : (p1.endLine == p2.line) = true := by rfl) (hst : starEach [e] X.env = (false, eval e X.env) :: starEach [] X.env := by rfl) (hplain : (backTo p2 (starEach [] X.env)).any (·.1) = false := by rfl)
    (hs : swapsWith (.Call (.Attribute (.Name x p) "remove" p1) [e] [] p2) none pos.line X.env = pure false := by rfl) :
    SD X K W L Δ (Δ.set i (.own .l true)) Δb Δc (.Expr (.Call (.Attribute (.Name x p) "remove" p1) [e] [] p2) pos) (tDrop (tBM K "list" rRemI (tVar i) (tCons te tNil))) (gRem i g) :=
  ⟨by have q := ps_expr (pos := pos) (pe_bm PySem.F.plainAttrs_list PySem.F.slot_list_remove PySem.F.type_list_remove mt_remove (pe_var hN hv hd hcd) (pa_cons h.pe pa_nil hst) hbase hfew hline hst hplain) hs; rw [h.hK] at q; exact q, h.hK, s_rem hk h.se⟩
end
theorem rem_ok {i : Nat} {g : Gd} {ρ : List Dt} {ns : List Int} {k : Int} (h1 : ρ[i]? = some (.list (ns.map .int))) (h2 : g ρ = .ok (.int k)) (h3 : k ∈ ns) : gRem i g ρ = .ok (.nx (ρ.set i (.list ((ns.eraseIdx (ns.idxOf k)).map .int)))) := by
  unfold gRem
  rw [h1]
  simp only [h2, bnd_ok, allI_map, if_pos h3]

/-! ### chains of three comparisons -/
def tChain3 (r1 r2 r3 : R2) (ta tb tc td : TE) : TE := fun σ H Q => ta σ H fun x H1 => tb σ H1 fun y H2 => r1 x y H2 fun z H3 => ∃ k, z = .bl k ∧ (if k = true then tc σ H3 fun u H4 => r2 y u H4 fun z2 H5 => ∃ k2, z2 = .bl k2 ∧ (if k2 = true then td σ H5 fun w H6 => r3 u w H6 Q else Q (.bl false) H5) else Q (.bl false) H3)
theorem pe_chain3 {X : Cx} {a b c d : Expr} {ta tb tc td : TE} {pos : Pos} {op op' op'' : CmpOp} {r r' r'' : R2} (ho : OpR X (compareOp op) r) (ho' : OpR X (compareOp op') r') (ho'' : OpR X (compareOp op'') r'') (ha : PE X a ta) (hb : PE X b tb) (hc : PE X c tc) (hd : PE X d td) (hm : lastMarks [op, op', op''] [b, c, d] = false := by with_unfolding_all rfl) :
    PE X (.Compare a [op, op', op''] [b, c, d] pos) (tChain3 r r' r'' ta tb tc td) where
  run := fun pins s σ H Q I h => PyProof.Rows.Compare_chain (thn (ha.run pins s σ H _ I h) fun v s1 ⟨x, H1, I1, r1, q1⟩ =>
    PyProof.Rows.chain_link (thn (hb.run pins s1 σ H1 _ I1 q1) fun u s2 ⟨y, H2, I2, r2, q2⟩ =>
      thn (ho pins s2 σ H2 x y v u _ I2 r1 r2 q2) fun d1 s3 ⟨z, H3, I3, r3, k, e, q3⟩ => by
        subst e
        cases r3
        refine wpAny_truthy_bool ?_
        cases k with
        | false => exact PyProof.Rows.ite_ff ⟨.bl false, H3, I3, rfl, q3⟩
        | true =>
          refine PyProof.Rows.ite_tt ?_
          rw [if_pos rfl] at q3
          exact PyProof.Rows.chain_link (thn (hc.run pins s3 σ H3 _ I3 q3) fun u' s4 ⟨y', H4, I4, r4, q4⟩ =>
            thn (ho' pins s4 σ H4 y y' u u' _ I4 r2 r4 q4) fun d2 s5 ⟨z2, H5, I5, r5, k2, e2, q5⟩ => by
              subst e2
              cases r5
              refine wpAny_truthy_bool ?_
              cases k2 with
              | false => exact PyProof.Rows.ite_ff ⟨.bl false, H5, I5, rfl, q5⟩
              | true =>
                refine PyProof.Rows.ite_tt ?_
                rw [if_pos rfl] at q5
                exact PyProof.Rows.chain_last (thn (hd.run pins s5 σ H5 _ I5 q5) fun w' s6 ⟨z', H6, I6, r6, q6⟩ => ho'' pins s6 σ H6 y' z' u' w' Q I6 r4 r6 q6)))) hm
def gChain3 (h h' h'' : Dt → Dt → O Dt) (ga gb gc gd : Gd) : Gd := fun ρ => bnd (ga ρ) fun x => bnd (gb ρ) fun y => bnd (h x y) fun z => bnd (asB z) fun c => if c then (bnd (gc ρ) fun u => bnd (h' y u) fun z => bnd (asB z) fun c => if c then bnd (gd ρ) fun w => h'' u w else .ok (.bool false)) else .ok (.bool false)
section
variable {K : PySem.W.Frag} {W : Wt} {Δ : List Kd} {ta tb tc td : TE} {ga gb gc gd : Gd} {av fr av' fr' av2 fr2 av3 fr3 : Bool}
theorem se_chain3 {r r' r'' : R2} {h h' h'' : Dt → Dt → O Dt} (hs : Scl2 h) (ho : OSc K r h) (hs' : Scl2 h') (ho' : OSc K r' h') (hs'' : Scl2 h'') (ho'' : OSc K r'' h'') (ha : SE K W Δ ta (.v av fr) ga) (hb : SE K W Δ tb (.v av' fr') gb) (hc : SE K W Δ tc (.v av2 fr2) gc) (hd : SE K W Δ td (.v av3 fr3) gd) :
    SE K W Δ (tChain3 r r' r'' ta tb tc td) (.v true true) (gChain3 h h' h'' ga gb gc gd) := fun f ρ σ H Q R q => by
  refine ha f ρ σ H _ R ?_
  unfold gChain3 at q
  cases e1 : ga ρ with
  | bad => rw [e1] at q; exact q
  | ex z => rw [e1] at q; exact q
  | ok d =>
    rw [e1, bnd_ok] at q
    intro v H1 s1 x1
    refine hb f ρ σ H1 _ (R.mono s1) ?_
    cases e2 : gb ρ with
    | bad => rw [e2] at q; exact q
    | ex z => rw [e2] at q; exact fun H' s => q H' (s1.trans s)
    | ok d2 =>
      rw [e2, bnd_ok] at q
      intro v2 H2 s2 x2
      refine ho H2 v v2 d d2 _ ((x1.same s2).weak fun _ _ => trivial) (x2.weak fun _ _ => trivial) ?_
      rcases hs d d2 with ⟨z, ez, sz⟩ | ez
      · rw [ez] at q ⊢
        rw [bnd_ok] at q
        refine ⟨sz, fun w x => ?_⟩
        cases x with
        | bl c =>
          refine ⟨c, rfl, ?_⟩
          cases c with
          | false =>
            show (if false = true then _ else _)
            rw [if_neg Bool.false_ne_true]
            exact q _ H2 (s1.trans s2) (.bl false)
          | true =>
            show (if true = true then _ else _)
            rw [if_pos rfl]
            have q : PoE K W f Δ σ H (.v true true) (bnd (gc ρ) fun u => bnd (h' d2 u) fun z => bnd (asB z) fun c => if c then bnd (gd ρ) fun w => h'' u w else .ok (.bool false)) Q := q
            refine hc f ρ σ H2 _ ((R.mono s1).mono s2) ?_
            cases e3 : gc ρ with
            | bad => rw [e3] at q; exact q
            | ex z => rw [e3] at q; exact fun H' s => q H' ((s1.trans s2).trans s)
            | ok d3 =>
              rw [e3, bnd_ok] at q
              intro v3 H3 s3 x3
              refine ho' H3 v2 v3 d2 d3 _ ((x2.same s3).weak fun _ _ => trivial) (x3.weak fun _ _ => trivial) ?_
              rcases hs' d2 d3 with ⟨z, ez, sz⟩ | ez
              · rw [ez] at q ⊢
                rw [bnd_ok] at q
                refine ⟨sz, fun w x => ?_⟩
                cases x with
                | bl c =>
                  refine ⟨c, rfl, ?_⟩
                  cases c with
                  | false =>
                    show (if false = true then _ else _)
                    rw [if_neg Bool.false_ne_true]
                    exact q _ H3 ((s1.trans s2).trans s3) (.bl false)
                  | true =>
                    show (if true = true then _ else _)
                    rw [if_pos rfl]
                    have q : PoE K W f Δ σ H (.v true true) (bnd (gd ρ) fun w => h'' d3 w) Q := q
                    refine hd f ρ σ H3 _ (((R.mono s1).mono s2).mono s3) ?_
                    cases e4 : gd ρ with
                    | bad => rw [e4] at q; exact q
                    | ex z => rw [e4] at q; exact fun H' s => q H' (((s1.trans s2).trans s3).trans s)
                    | ok d4 =>
                      rw [e4, bnd_ok] at q
                      intro v4 H4 s4 x4
                      refine ho'' H4 v3 v4 d3 d4 Q ((x3.same s4).weak fun _ _ => trivial) (x4.weak fun _ _ => trivial) ?_
                      rcases hs'' d3 d4 with ⟨z, ez, sz⟩ | ez
                      · rw [ez] at q ⊢
                        exact ⟨sz, fun w x => q w H4 (((s1.trans s2).trans s3).trans s4) (x.scl_any sz)⟩
                      · rw [ez] at q
                        exact q.elim
                | non => exact q.elim
                | int => exact q.elim
                | str => exact q.elim
                | lst => cases sz
                | fz => cases sz
                | tup => cases sz
              · rw [ez] at q
                exact q.elim
        | non => exact q.elim
        | int => exact q.elim
        | str => exact q.elim
        | lst => cases sz
        | fz => cases sz
        | tup => cases sz
      · rw [ez] at q
        exact q.elim
end
section
variable {X : Cx} {K : PySem.W.Frag} {W : Wt} {Δ : List Kd} {a b c d : Expr} {ta tb tc td : TE} {ga gb gc gd : Gd} {av fr av' fr' av2 fr2 av3 fr3 : Bool} {pos : Pos} {op op' op'' : CmpOp} {r r' r'' : R2} {h h' h'' : Dt → Dt → O Dt}
theorem x_chain3 (o : OR X K op r h) (o' : OR X K op' r' h') (o'' : OR X K op'' r'' h'') (ha : PD X K W Δ a ta (.v av fr) ga) (hb : PD X K W Δ b tb (.v av' fr') gb) (hc : PD X K W Δ c tc (.v av2 fr2) gc) (hd : PD X K W Δ d td (.v av3 fr3) gd) (hm : lastMarks [op, op', op''] [b, c, d] = false := by with_unfolding_all rfl) : PD X K W Δ (.Compare a [op, op', op''] [b, c, d] pos) (tChain3 r r' r'' ta tb tc td) (.v true true) (gChain3 h h' h'' ga gb gc gd) :=
  ⟨pe_chain3 o.ho o'.ho o''.ho ha.pe hb.pe hc.pe hd.pe hm, ha.hK, se_chain3 o.scl o.osc o'.scl o'.osc o''.scl o''.osc ha.se hb.se hc.se hd.se⟩
end
theorem gChain3_def (h h' h'' : Dt → Dt → O Dt) (ga gb gc gd : Gd) (ρ : List Dt) : gChain3 h h' h'' ga gb gc gd ρ = bnd (ga ρ) fun x => bnd (gb ρ) fun y => bnd (h x y) fun z => bnd (asB z) fun c => if c then (bnd (gc ρ) fun u => bnd (h' y u) fun z => bnd (asB z) fun c => if c then bnd (gd ρ) fun w => h'' u w else .ok (.bool false)) else .ok (.bool false) := rfl

/-! ### xs[i] += e -/
def rGetL (K : PySem.W.Frag) : V → V → Hp → VK → Prop := fun o i H Q => ∃ p xs k v, o = .ref p ∧ i = .int k ∧ 0 ≤ k ∧ SqL K H p xs ∧ xs[k.toNat]? = some v ∧ Q v H
theorem get_listR {X : Cx} : PGet X (rGetL X.K) := fun pins s σ H o i ov iv Q I ro ri h => by
  obtain ⟨p, xs, k, v, e1, e2, k0, hq, hg, q⟩ := h
  subst e1 e2
  obtain ⟨its, rv, pl, hl⟩ := I.list hq
  obtain ⟨u, hu, ru⟩ := rv.get hg
  cases ro
  obtain ⟨t, rfl⟩ := ri
  have h63 := line63
  have hlt : k.toNat < xs.length := by
    rcases Nat.lt_or_ge k.toNat xs.length with h | h
    · exact h
    · rw [List.getElem?_eq_none h] at hg
      cases hg
  obtain ⟨o, n, p1, p2, _, p4⟩ := pl
  exact wpAny_getItem_list ⟨o, p1, p2, n, p4⟩ k0 (by omega) (by simpa using hu) ⟨v, H, I, ru, q⟩
def gAugI (f : Int → Int → Int) (i : Nat) (ge gi : Gd) : Gs := fun ρ => match ρ[i]? with
  | some (.list ds) => bnd (gi ρ) fun k => (match k with
    | .int k => if 0 ≤ k then (match ds[k.toNat]? with
      | some (.int x) => bnd (ge ρ) fun d => (match d with
        | .int y => .ok (.nx (ρ.set i (.list (ds.set k.toNat (.int (f x y))))))
        | _ => .bad)
      | _ => .bad) else .bad
    | _ => .bad)
  | _ => .bad
theorem ixN_nn {n : Nat} {k : Int} (h0 : 0 ≤ k) (h : k.toNat < n) : ixN n k = some k.toNat := by
  unfold ixN
  rw [if_pos h0, if_pos (by omega)]
section
variable {K : PySem.W.Frag} {W : Wt} {L : Lk} {Δ Δb Δc : List Kd} {te ti : TE} {ge gi : Gd} {fr av fr' av2 fr2 : Bool} {i : Nat}
theorem s_augI {hf : Int → Int → Int} (hk : Δ[i]? = some (.own .l fr)) (h : SE K W Δ te (.v av fr') ge) (h2 : SE K W Δ ti (.v av2 fr2) gi) : SS K W L Δ (Δ.set i (.own .l fr)) Δb Δc (tAugS (tVar i) ti te (rGetL K) (ipI hf) rSetL) (gAugI hf i ge gi) := fun f ρ σ H E r q => by
  obtain ⟨p, d, g1, g2, g3, vs, ds, ed, g4, g5⟩ := r.ow i .l fr hk
  subst ed
  unfold gAugI at q
  rw [g2] at q
  simp only at q
  refine ⟨_, g1, h2 f ρ σ H _ r ?_⟩
  cases e2 : gi ρ with
  | bad => rw [e2] at q; exact q
  | ex z => rw [e2] at q; exact fun H' s => q σ H' (r.ext.trans s)
  | ok k =>
    rw [e2, bnd_ok] at q
    intro kv H2 s2 xk
    cases k with
    | int k =>
      simp only at q
      split at q
      · rename_i k0
        split at q
        · rename_i x ex
          obtain ⟨y, hy, xy⟩ := g5.get' ex
          rw [rpInt xy] at hy
          rw [rpInt xk]
          have hp2 := s2 _ _ g4
          refine ⟨p, vs, k, .int x, rfl, rfl, k0, .of hp2, hy, h f ρ σ H2 _ (r.mono s2) ?_⟩
          cases e3 : ge ρ with
          | bad => rw [e3] at q; exact q
          | ex z => rw [e3] at q; exact fun H' s => q σ H' ((r.ext.trans s2).trans s)
          | ok d =>
            rw [e3, bnd_ok] at q
            intro v H3 s3 xv
            cases d with
            | int y =>
              simp only at q
              rw [rpInt xv]
              have s23 := s2.trans s3
              have hp := s23 _ _ g4
              have hlt : k.toNat < vs.length := by
                rcases Nat.lt_or_ge k.toNat vs.length with h | h
                · exact h
                · rw [List.getElem?_eq_none h] at hy
                  cases hy
              refine ⟨x, y, rfl, rfl, p, vs, k, k.toNat, rfl, rfl, hp, ixN_nn k0 hlt, q σ _ ?_⟩
              refine (r.mono s23).updOwn hk g1 (c' := .l) (show Mutb (.lst _) from trivial) ⟨_, _, rfl, upd_same, ?_⟩
              have nf : ∀ {fr : Bool} (a : Addr), FM f Δ σ true fr a → a ≠ p := fun a fa z => (fa.1 rfl).1 (z ▸ ⟨i, .l, _, hk, g1⟩)
              exact RpA.set (.int _) k.toNat ((g5.same s23).updM hp trivial fun a fa => nf a fa)
            | _ => exact q.elim
        · exact q.elim
      · exact q.elim
    | _ => exact q.elim
end
section
variable {X : Cx} {K : PySem.W.Frag} {W : Wt} {Δ Δb Δc : List Kd} {e ix : Expr} {te ti : TE} {ge gi : Gd} {av fr av2 fr2 fr' : Bool} {L : Lk} {pos : Pos}
theorem z_augI (i : Nat) {x : Str} {p sp : Pos} (h : PD X K W Δ e te (.v av fr') ge) (h2 : PD X K W Δ ix ti (.v av2 fr2) gi) (hk : Δ[i]? = some (.own .l fr) := by rfl) (hv : Vis X.env.scope x := by first | exact Or.inl rfl | exact Or.inr (Or.inl rfl) | exact Or.inr (Or.inr rfl)) (hN : X.N[i]? = some x := by rfl) (hd : (x == ("__debug__" : Str)) = false := by decide) (hcd : (x == ("__classdict__" : Str)) = false := by decide)
    (ha : ∀ (ov iv new : Value), augStore ix ov iv new = (do
      holding [new, ov, iv] (setItem ov iv new)
      release [new, ov, iv] []
      pure Flow.next) := by intro _ _ _; rfl) :
    SD X K W L Δ (Δ.set i (.own .l fr)) Δb Δc (.AugAssign (.Subscript (.Name x p) ix sp) .Add e pos) (tAugS (tVar i) ti te (rGetL K) (ipI fun i j => i + j) rSetL) (gAugI (fun i j => i + j) i ge gi) :=
  ⟨by have q := ps_augS (pos := pos) (tpos := sp) (o := .Name x p) (pe_var hN hv hd hcd) h2.pe get_listR h.pe ip_add set_list ha; rw [h.hK] at q; exact q, h.hK, s_augI hk h.se h2.se⟩
end
theorem augI_ok {f : Int → Int → Int} {i : Nat} {ge gi : Gd} {ρ : List Dt} {ns : List Int} {k y : Int} (h1 : ρ[i]? = some (.list (ns.map .int))) (h2 : gi ρ = .ok (.int k)) (h3 : ge ρ = .ok (.int y)) (k0 : 0 ≤ k) (hk : k.toNat < ns.length) :
    gAugI f i ge gi ρ = .ok (.nx (ρ.set i (.list ((ns.set k.toNat (f ns[k.toNat] y)).map .int)))) := by
  have e : (ns.map PyData.int)[k.toNat]? = some (.int ns[k.toNat]) := by rw [List.getElem?_map, List.getElem?_eq_getElem hk]; rfl
  unfold gAugI
  rw [h1]
  simp only [h2, bnd_ok, if_pos k0, e, h3, List.map_set]

/-! ### a walk over a list made with effects -/
def xSeq (g : Gx) : List Dt → O (List Dt × List Dt) := fun ρ => bx (g ρ) fun x => match x.1 with
  | .list ds => .ok (ds, x.2)
  | .tuple ds => .ok (ds, x.2)
  | _ => .bad
section
variable {K : PySem.W.Frag} {W : Wt} {L : Lk} {Δ Δb Δc : List Kd} {te : TE} {gx : Gx} {gg : TG} {sl : List Nat} {n : Nat} {hh : Dt → List Dt → O (List Dt)} {TK : Bool → List Kd → List Kd} {t : TS} {gb : Gs} {fr av : Bool}
theorem s_for_at (hn : Δ.length = n) (hg : GJ K n gg sl hh TK) (hb : SS K W L (TK fr Δ) Δ Δ Δ t gb) {f : Fm} {ρ : List Dt} {σ : L2.St} {H1 : Hp} {E : Ends} {vs : List V} {es ds : List Dt} (r : R K f Δ ρ σ H1) (q : PoS K W L f Δ Δb Δc (forE hh gb ds ρ) E)
    (x : RpA K (FM f Δ σ true fr) H1 vs es) {J} (sc : Sc K J none vs es ds) : tFor (fun σ H Rk => Rk J H) gg t E σ H1 := by
  have r1 := r.addG (fr := fr) x
  have q1 := q.toG (gg := (vs, es, fr))
  generalize hf1 : ({ f with Γ := (vs, es, fr) :: f.Γ } : Fm) = f1 at r1 q1
  have gG : (vs, es, fr) ∈ f1.Γ := by rw [← hf1]; exact List.mem_cons_self
  refine ⟨fun i m σ H => m = ds.length - i ∧ i ≤ ds.length ∧ ∃ ρ, R K f1 Δ ρ σ H ∧ PoS K W L f1 Δ Δb Δc (forE hh gb (ds.drop i) ρ) E, ⟨ds.length, by simp, Nat.zero_le _, ρ, r1, q1⟩, ?_⟩
  rintro i m σ2 H2 ⟨rfl, hi, ρ2, r2, q2⟩
  have stand : (∀ q, (none : Option (Addr × HO)) = some q → H2 q.1 = some q.2) ∧ ∃ F, RpA K F H2 vs es := ⟨fun _ e => (nomatch e), _, r2.gh _ gG⟩
  by_cases hlt : i < ds.length
  · refine .inr ⟨sc.goes i H2 hlt stand, fun σ' H' => i + 1 ≤ ds.length ∧ ∃ ρ, R K f1 Δ ρ σ' H' ∧ PoS K W L f1 Δ Δb Δc (forE hh gb (ds.drop (i + 1)) ρ) E, fun σ' H' w => ⟨ds.length - (i + 1), by omega, rfl, w⟩, fun x H3 hy => ?_⟩
    obtain ⟨s3, hx⟩ := sc.yields i H2 x H3 hlt stand hy
    obtain ⟨d, hd, x3⟩ := hx _ (r2.gh _ gG)
    have edrop : ds.drop i = d :: ds.drop (i + 1) := by
      have hd' := (List.getElem?_eq_some_iff.mp hd).2
      rw [List.drop_eq_getElem_cons hlt, hd']
    rw [edrop] at q2
    unfold forE at q2
    refine hg f1 Δ ρ2 σ2 H3 x d fr _ hn (r2.mono s3) x3 ?_
    cases eh : hh d ρ2 with
    | bad => rw [eh] at q2; exact q2.elim
    | ex z => rw [eh] at q2; exact q2.elim
    | ok ρ3 =>
      rw [eh] at q2
      simp only at q2
      intro σ4 t4
      refine hb f1 ρ3 σ4 H3 _ t4.r ?_
      cases e2 : gb ρ3 with
      | bad => rw [e2] at q2; exact q2
      | ex z => rw [e2] at q2; exact q2
      | ok fl =>
        rw [e2, bnd_ok] at q2
        cases fl with
        | nx ρ' => exact fun σ' H' r' => ⟨hlt, ρ', r', q2⟩
        | ct ρ' => exact fun σ' H' r' => ⟨hlt, ρ', r', q2⟩
        | bk ρ' => exact q2
        | rt d => exact q2
  · have ei : i = ds.length := by omega
    subst ei
    rw [List.drop_length] at q2
    exact .inl ⟨sc.stops H2 stand, q2 σ2 H2 r2⟩
theorem s_forXl (hn : Δ.length = n) (h : SX K Δ te (.v true fr) gx) (hg : GJ K n gg sl hh TK) (hb : SS K W L (TK fr Δ) Δ Δ Δ t gb) :
    SS K W L Δ Δ Δb Δc (tFor (iSeq K te) gg t) (xFor (xSeq gx) hh gb) := fun f ρ σ H E r q => by
  refine h f ρ σ H _ r ?_
  obtain ⟨⟨ds, ρ1⟩, e1, q⟩ := bx_inv (P := fun o => PoS K W L f _ Δb Δc o E) id q
  obtain ⟨⟨d, ρ0⟩, e2, e1⟩ := bx_inv (P := fun o => o = .ok (ds, ρ1)) (fun z => nomatch z) e1
  rw [e2]
  intro v H1 r1 x1
  cases d with
  | list ds' =>
    cases e1
    obtain ⟨a, xs, rfl, hs, r'⟩ := x1.sql
    exact ⟨a, rfl, .inl ⟨⟨xs, hs⟩, s_for_at (vs := [.ref a]) (es := [.list ds]) hn hg hb r1 q (.cons x1 .nil) sc_list⟩⟩
  | tuple ds' =>
    cases e1
    obtain ⟨a, xs, rfl, hs, r'⟩ := x1.sqt
    exact ⟨a, rfl, .inr ⟨⟨xs, hs⟩, s_for_at (vs := [.ref a]) (es := [.tuple ds]) hn hg hb r1 q (.cons x1 .nil) sc_tup⟩⟩
  | _ => cases e1
end
section
variable {X : Cx} {K : PySem.W.Frag} {W : Wt} {Δ Δb Δc : List Kd} {e tg : Expr} {te : TE} {gx : Gx} {g1 : Gs} {t : TS} {sts : List Stmt} {fr : Bool} {L : Lk} {pos : Pos}
theorem zx_forL {n : Nat} {gg : TG} {sl : List Nat} {hh : Dt → List Dt → O (List Dt)} {TK : Bool → List Kd → List Kd} (hp : PassesOwn (model X.prog X.w) X.A X.env X.xe) (h : XD X K Δ e te (.v true fr) gx) (hg : GD X K n tg gg sl hh TK) (hb : BD X K W L (TK fr Δ) Δ Δ Δ sts t g1) (hn : Δ.length = n := by rfl) (hc : X.calm = true := by rfl)
    (hs : ∀ x, foldedSetIterable e X.env x = pure x := by intro _; rfl) : SD X K W L Δ Δ Δb Δc (.For tg e sts [] pos) (tFor (iSeq K te) gg t) (xFor (xSeq gx) hh g1) :=
  ⟨by have q := pi_seq (tg := tg) h.pe; rw [h.hK] at q; exact ps_for hp hc q hg.pg hb.ps hs, h.hK, s_forXl hn h.sx hg.gj hb.ss⟩
end
theorem xseq_ok {gx : Gx} {ρ ρ' ds : List Dt} (h : gx ρ = .ok (.list ds, ρ')) : xSeq gx ρ = .ok (ds, ρ') := by unfold xSeq; rw [h, bx_ok]

/-! ### defs with default values, called with all they ask -/
theorem dflI {K : PySem.W.Frag} {T : Addr} {d : Int} {tk : Tok} {o : Obj} {n : Nat} (h : K.lookup T = some o) (h2 : o.data = .seq #[.int d tk] n) : DflV K (.ref T) [.int d] := .inr ⟨(fun z => nomatch z), T, o, [.int d tk], n, rfl, h, h2, .cons ⟨tk, rfl⟩ .nil⟩
theorem bindsD {K : PySem.W.Frag} {x qual : Str} {params : Arguments} {body : List Stmt} {scope : Scope} {dvs : List V} {kws : List (Str × V)} {f : Addr} {fd : FuncData} {ps : List Str} (F : FunD K x qual params body scope dvs kws f fd) (hne : dvs ≠ [])
    (h : ∀ (T : Addr) (kV doc pm : Value) (an : Option Addr) (cdv ct : Value) (us its : List Value), us.length = ps.length → its.length = dvs.length → ∃ k, bindArgs (PySem.W.fnOf x qual params body scope (.ref T) kV doc pm an cdv ct) { pos := us } = seqItems? (.ref T) >>= k ∧ k (some its.toArray) = pure (ps.zip us)) : Binds K fd ps [] := by
  obtain ⟨ds, hv, hb⟩ := F.binds1 (ps := ps) ps.length dvs.length hne (by omega) (fun T kV doc pm an cdv ct us its h1 h2 => by
    obtain ⟨k, e1, e2⟩ := h T kV doc pm an cdv ct us its h1 h2
    refine ⟨k, e1, ?_⟩
    rw [e2, ← h2, List.drop_length, List.append_nil])
  rw [List.drop_length] at hv
  cases hv
  exact hb
section
variable {P : Program} {w : World} {K : PySem.W.Frag} {mg : Str → Option Value} {base : Heap} {x qual : Str} {st : Stmt} {fa : Addr} {fd : FuncData} {N ps : List Str} {k n m : Nat} {Δn : List Kd} {g : Gs} {dvs : List V} {kws : List (Str × V)}
theorem fn_okND (F : FunD K x qual (defArgs st) (defBody st) (defScope st) dvs kws fa fd) (S : FnScope N ps (defScope st)) (hn : ps.length = n) (hm : N.length = m) (hnm : n ≤ m)
    (hb : ∀ (cdv : Value) (A : Around) (outer : List Env) (s : Shared) (H : Hp) (E : XK), Room k (A.deeper (envOfC qual (defScope st) s.heap.objs.size fa cdv)) → ∃ ts, BD (cxOf CX0 P w K mg base N qual (defScope st) fa cdv A outer s H E).nox K W0 .n (kd0 n m false) Δn (kd0 n m false) (kd0 n m false) (defBody st) ts g) :
    FnOk P w K mg base CX0 (k + 1) fa fd ps (spG K mg n (fnN m g)) := by
  refine F.ok S (fun vs H Q E h => ?_) (fun cdv A outer s H vs Q E hr h => ?_)
  · obtain ⟨ds, h1, _⟩ := h
    rw [h1, hn]
  · obtain ⟨ds, h1, h2, h3⟩ := h
    obtain ⟨ts, B⟩ := hb cdv A outer s H E hr
    refine ⟨ts, PSs.nox B.ps, B.ss ⟨H, fun a => H a = none, [], [], none⟩ _ _ H _ (r_start h1 hm hnm h2 (fun _ h => h) (fun e => nomatch e)) ?_⟩
    unfold fnN at h3
    cases e : g (ds ++ List.replicate (m - ds.length) .none) with
    | bad => rw [e] at h3; exact h3.elim
    | ex z => rw [e] at h3; exact h3.elim
    | ok fl =>
      rw [e] at h3
      cases fl with
      | nx ρ => exact fun σ' H' r => h3 .non H' r.ext .non
      | rt d => exact fun v H' s x => h3 v H' s x
      | bk ρ => exact h3.elim
      | ct ρ => exact h3.elim
theorem fn_okLD (F : FunD K x qual (defArgs st) (defBody st) (defScope st) dvs kws fa fd) (S : FnScope N ps (defScope st)) (hn : ps.length = n) (hm : N.length = m) (hnm : n ≤ m)
    (hb : ∀ (cdv : Value) (A : Around) (outer : List Env) (s : Shared) (H : Hp) (E : XK), Room k (A.deeper (envOfC qual (defScope st) s.heap.objs.size fa cdv)) → ∃ ts, BD (cxOf CX0 P w K mg base N qual (defScope st) fa cdv A outer s H E).nox K W0 .l (kd0 n m false) Δn (kd0 n m false) (kd0 n m false) (defBody st) ts g) :
    FnOk P w K mg base CX0 (k + 1) fa fd ps (spL K mg n (fnL m g)) := by
  refine F.ok S (fun vs H Q E h => ?_) (fun cdv A outer s H vs Q E hr h => ?_)
  · obtain ⟨ds, h1, _⟩ := h
    rw [h1, hn]
  · obtain ⟨ds, h1, h2, h3⟩ := h
    obtain ⟨ts, B⟩ := hb cdv A outer s H E hr
    refine ⟨ts, PSs.nox B.ps, B.ss ⟨H, fun a => H a = none, [], [], none⟩ _ _ H _ (r_start h1 hm hnm h2 (fun _ h => h) (fun e => nomatch e)) ?_⟩
    unfold fnL at h3
    cases e : g (ds ++ List.replicate (m - ds.length) .none) with
    | bad => rw [e] at h3; exact h3.elim
    | ex z => rw [e] at h3; exact h3.elim
    | ok fl =>
      rw [e] at h3
      cases fl with
      | nx ρ => exact h3.elim
      | rt d => exact fun p H' np s x => h3 p H' np s x
      | bk ρ => exact h3.elim
      | ct ρ => exact h3.elim
end
end Sim
end T_SimR

section T_SimY
set_option Elab.async false
set_option linter.all false
set_option maxRecDepth 100000
/-! SimY: xs.index(k), xs.reverse(), xs.clear(), xs.pop(); calls that leave a default value, or name an argument. -/
namespace Sim
open PySem PySem.Spec L2
open PyProof.Rows hiding St

/-! ### xs.index(k) -/
def hIdx : Dt → Dt → O Dt := fun d e => match d, e with
  | .list ds, .int k => (match allI ds with
    | some ns => if k ∈ ns then .ok (.int ((ns.idxOf k : Nat) : Int)) else .bad
    | none => .bad)
  | _, _ => .bad
theorem flat_ints : ∀ ns : List Int, (ns.map V.int).all flatV = true
  | [] => rfl
  | n :: ns => by rw [List.map_cons, List.all_cons, flat_ints ns]; rfl
def gIdx (ga gb : Gd) : Gd := fun ρ => bnd (ga ρ) fun d => match d with
  | .list ds => bnd (gb ρ) fun e => hIdx (.list ds) e
  | _ => .bad
def gRvS (i : Nat) : Gs := fun ρ => match ρ[i]? with
  | some (.list ds) => .ok (.nx (ρ.set i (.list ds.reverse)))
  | _ => .bad
def gClr (i : Nat) : Gs := fun ρ => match ρ[i]? with
  | some (.list _) => .ok (.nx (ρ.set i (.list [])))
  | _ => .bad
def gPopS (i : Nat) : Gs := fun ρ => match ρ[i]? with
  | some (.list (d :: ds)) => .ok (.nx (ρ.set i (.list (d :: ds).dropLast)))
  | _ => .bad
section
variable {K : PySem.W.Frag} {W : Wt} {L : Lk} {Δ Δb Δc : List Kd} {to te : TE} {ga gb g : Gd} {fr av fr' av' : Bool} {i : Nat}
theorem se_index (ha : SE K W Δ to (.v av fr) ga) (hb : SE K W Δ te (.v av' fr') gb) : SE K W Δ (tBM K "list" (rIndex K) to (tCons te tNil)) (.v true true) (gIdx ga gb) := fun f ρ σ H Q R q => by
  refine ha f ρ σ H _ R ?_
  unfold gIdx at q
  cases e1 : ga ρ with
  | bad => rw [e1] at q; exact q
  | ex z => rw [e1] at q; exact q
  | ok d =>
    rw [e1, bnd_ok] at q
    intro v H1 s1 x1
    cases d with
    | list ds =>
      obtain ⟨a, xs, rfl, hs, r'⟩ := x1.sql
      refine ⟨.inl ⟨rfl, xs, hs⟩, hb f ρ σ H1 _ (R.mono s1) ?_⟩
      simp only at q
      cases e2 : gb ρ with
      | bad => rw [e2] at q; exact q
      | ex z => rw [e2] at q; exact fun H' s => q H' (s1.trans s)
      | ok e =>
        rw [e2, bnd_ok] at q
        intro u H2 s2 x2
        unfold hIdx at q
        cases e with
        | int k =>
          simp only at q
          cases ea : allI ds with
          | none => rw [ea] at q; exact q.elim
          | some ns =>
            rw [ea] at q
            simp only at q
            by_cases hm : k ∈ ns
            · rw [if_pos hm] at q
              obtain ⟨a', xs', e', hs2, r2⟩ := (x1.same s2).sql
              cases e'
              have ev := rp_ints r2 ea
              subst ev
              obtain ⟨g1, g2⟩ := idxOf_get hm
              rw [rpInt x2]
              refine ⟨a, _, .int k, ns.idxOf k, .int k, rfl, rfl, hs2, rfl, flat_ints ns, by rw [List.getElem?_map, g1]; rfl, by unfold eqV; simp, fun m z' hm' hz => ?_, q _ H2 (s1.trans s2) (.int _)⟩
              rw [List.getElem?_map] at hz
              cases en : ns[m]? with
              | none => rw [en] at hz; cases hz
              | some y =>
                rw [en] at hz
                cases hz
                have : y ≠ k := fun z => g2 m hm' (by rw [en, z])
                unfold eqV
                simpa using this
            · rw [if_neg hm] at q
              exact q.elim
        | _ => exact q.elim
    | _ => exact q.elim
theorem RpA.dropLast {F : Addr → Prop} {H : Hp} : ∀ {xs : List V} {ds : List Dt}, RpA K F H xs ds → RpA K F H xs.dropLast ds.dropLast
  | _, _, .nil => .nil
  | _, _, .cons _ .nil => .nil
  | _, _, .cons x (.cons y r) => .cons x (RpA.dropLast (.cons y r))
theorem s_rev (hk : Δ[i]? = some (.own .l fr)) : SS K W L Δ (Δ.set i (.own .l fr)) Δb Δc (tDrop (tBM0 K "list" rReverse (tVar i))) (gRvS i) := fun f ρ σ H E r q => by
  obtain ⟨p, d, h1, h2, h3, vs, ds, ed, h4, h5⟩ := r.ow i .l fr hk
  subst ed
  unfold gRvS at q
  rw [h2] at q
  refine ⟨_, h1, .inl ⟨rfl, _, .inl (.inl h4)⟩, p, vs, rfl, rfl, h4, q σ _ ?_⟩
  have nf : ∀ {fr : Bool} (a : Addr), FM f Δ σ true fr a → a ≠ p := fun a fa z => (fa.1 rfl).1 (z ▸ ⟨i, .l, _, hk, h1⟩)
  exact r.updOwn hk h1 (c' := .l) (show Mutb (.lst _) from trivial) ⟨_, _, rfl, upd_same, RpA.reverse (h5.updM h4 trivial fun a fa => nf a fa)⟩
theorem s_clr (hk : Δ[i]? = some (.own .l fr)) : SS K W L Δ (Δ.set i (.own .l true)) Δb Δc (tDrop (tBM0 K "list" rClear (tVar i))) (gClr i) := fun f ρ σ H E r q => by
  obtain ⟨p, d, h1, h2, h3, vs, ds, ed, h4, h5⟩ := r.ow i .l fr hk
  subst ed
  unfold gClr at q
  rw [h2] at q
  refine ⟨_, h1, .inl ⟨rfl, _, .inl (.inl h4)⟩, p, vs, rfl, rfl, h4, q σ _ ?_⟩
  exact r.updOwn hk h1 (c' := .l) (show Mutb (.lst _) from trivial) ⟨_, _, rfl, upd_same, .nil⟩
theorem s_popS (hk : Δ[i]? = some (.own .l fr)) : SS K W L Δ (Δ.set i (.own .l fr)) Δb Δc (tDrop (tBM0 K "list" rPop (tVar i))) (gPopS i) := fun f ρ σ H E r q => by
  obtain ⟨p, d, h1, h2, h3, vs, ds, ed, h4, h5⟩ := r.ow i .l fr hk
  subst ed
  unfold gPopS at q
  rw [h2] at q
  cases ds with
  | nil => exact q.elim
  | cons d0 ds =>
    have hl : vs.length - 1 < vs.length := by
      rw [h5.length, List.length_cons]
      omega
    refine ⟨_, h1, .inl ⟨rfl, _, .inl (.inl h4)⟩, p, vs, vs[vs.length - 1], rfl, rfl, h4, List.getElem?_eq_getElem hl, q σ _ ?_⟩
    have nf : ∀ {fr : Bool} (a : Addr), FM f Δ σ true fr a → a ≠ p := fun a fa z => (fa.1 rfl).1 (z ▸ ⟨i, .l, _, hk, h1⟩)
    exact r.updOwn hk h1 (c' := .l) (show Mutb (.lst _) from trivial) ⟨_, _, rfl, upd_same, RpA.dropLast (h5.updM h4 trivial fun a fa => nf a fa)⟩
end

/-! ### calls with a default value left, or an argument named -/
def gCallDf (n : Nat) (g : List Dt → O Dt) (d0 : List Dt) (gA : List Dt → O (List Dt)) : Gd := fun ρ => bnd (gA ρ) fun ds => if (ds ++ d0).length = n then (match g (ds ++ d0) with
  | .ok d => .ok d
  | _ => .bad) else .bad
def gCallKw (m n : Nat) (g : List Dt → O Dt) (gA gK : List Dt → O (List Dt)) : Gd := fun ρ => bnd (gA ρ) fun ds => bnd (gK ρ) fun es => if ds.length = m ∧ (ds ++ es).length = n then (match g (ds ++ es) with
  | .ok d => .ok d
  | _ => .bad) else .bad
theorem kbn2 {K : PySem.W.Frag} {x qual : Str} {params : Arguments} {body : List Stmt} {scope : Scope} {dvs : List V} {kws : List (Str × V)} {f : Addr} {fd : FuncData} {ps : List Str} (F : FunD K x qual params body scope dvs kws f fd) (n : Nat) (ks : List Str) (hne : dvs ≠ [])
    (h : ∀ (T : Addr) (kV doc pm : Value) (an : Option Addr) (cdv ct : Value) (us its ws : List Value), us.length = n → its.length = dvs.length → ws.length = ks.length → ∃ k, bindArgs (PySem.W.fnOf x qual params body scope (.ref T) kV doc pm an cdv ct) { pos := us, kw := ks.zip ws } = seqItems? (.ref T) >>= k ∧ k (some its.toArray) = pure (ps.zip (us ++ ws))) : KBn K fd ps n ks (fun us ws => us ++ ws) (fun vs zs => vs ++ zs) := by
  refine ⟨fun s us ws hin h1 h2 => ?_, fun a b => a.append b⟩
  obtain ⟨oc, od, dV, kV, doc, pm, an, cdv, ct, osl, e, lk, hcd, hD, hK⟩ := F.ex
  subst e
  rcases hD with ⟨e, _⟩ | ⟨_, T, o, its, m, e, lT, oT, rT⟩
  · exact absurd e hne
  · subst e
    obtain ⟨k, e1, e2⟩ := h T kV doc pm an cdv ct us its ws h1 rT.length.symm h2
    intro M A E Q q
    rw [e1]
    refine wpAny_bind (wpAny_seqItems (hin T o lT) oT ?_)
    rw [e2]
    exact wpAny_pure q
section
variable {K : PySem.W.Frag} {W : Wt} {Δ : List Kd} {ta tk : TA} {gA gK : List Dt → O (List Dt)} {av fr av' fr' : Bool} {mg : Str → Option Value} {m n : Nat} {g : List Dt → O Dt}
theorem se_callLDf {d : Int} (h : SA K W Δ ta av fr gA) : SE K W Δ (tCall (spL K mg n g) [V.int d] E0 ta) (.new .l true) (gCallDf n g [.int d] gA) := fun f ρ σ H Q r q => h f ρ σ H _ r <| by
  unfold gCallDf at q
  cases e : gA ρ with
  | bad => rw [e] at q; exact q
  | ex z => rw [e] at q; exact q
  | ok ds =>
    rw [e, bnd_ok] at q
    intro vs H1 s1 x1
    by_cases hn : (ds ++ [PyData.int d]).length = n
    · rw [if_pos hn] at q
      have x2 : RpA K (fun _ => True) H1 (vs ++ [V.int d]) (ds ++ [.int d]) := (x1.weak fun _ _ => trivial).append (.cons (.int d) .nil)
      refine ⟨ds ++ [.int d], by rw [x2.length]; exact hn, x2, ?_⟩
      cases e2 : g (ds ++ [.int d]) with
      | bad => rw [e2] at q; exact q.elim
      | ex z => rw [e2] at q; exact q.elim
      | ok d =>
        rw [e2] at q
        intro p H2 np s2 x2
        refine q p H2 (s1.free np) (s1.trans s2) (x2.map (fun _ e => e) fun _ _ y => y.weak fun a na => ?_)
        obtain ⟨f1, f2, f3⟩ := (r.mono s1).fresh na.1
        exact ⟨⟨fun _ => ⟨f1, f2⟩, fun _ => r.g0 a f3⟩, na.2⟩
    · rw [if_neg hn] at q
      exact q.elim
theorem se_callLKw (h : SA K W Δ ta av fr gA) (hk : SA K W Δ tk av' fr' gK) {m2 : Nat} (hmn : m + m2 = n) : SE K W Δ (tCallN m m2 (spL K mg n g) (fun vs zs => vs ++ zs) E0 ta tk) (.new .l true) (gCallKw m n g gA gK) := fun f ρ σ H Q r q => h f ρ σ H _ r <| by
  unfold gCallKw at q
  cases e : gA ρ with
  | bad => rw [e] at q; exact q
  | ex z => rw [e] at q; exact q
  | ok ds =>
    rw [e, bnd_ok] at q
    intro vs H1 s1 x1
    refine hk f ρ σ H1 _ (r.mono s1) ?_
    cases e' : gK ρ with
    | bad => rw [e'] at q; exact q
    | ex z => rw [e'] at q; exact fun H' s => q H' (s1.trans s)
    | ok es =>
      rw [e', bnd_ok] at q
      intro zs H2 s2 x2
      by_cases hn : ds.length = m ∧ (ds ++ es).length = n
      · rw [if_pos hn] at q
        have x3 : RpA K (fun _ => True) H2 (vs ++ zs) (ds ++ es) := ((x1.same s2).weak fun _ _ => trivial).append (x2.weak fun _ _ => trivial)
        refine ⟨by rw [x1.length]; exact hn.1, ?_, ds ++ es, by rw [x3.length]; exact hn.2, x3, ?_⟩
        · have := hn.2
          rw [List.length_append] at this
          rw [x2.length]
          omega
        · cases e2 : g (ds ++ es) with
          | bad => rw [e2] at q; exact q.elim
          | ex z => rw [e2] at q; exact q.elim
          | ok d =>
            rw [e2] at q
            intro p H3 np s3 x4
            refine q p H3 ((s1.trans s2).free np) ((s1.trans s2).trans s3) (x4.map (fun _ e => e) fun _ _ y => y.weak fun a na => ?_)
            obtain ⟨f1, f2, f3⟩ := (r.mono (s1.trans s2)).fresh na.1
            exact ⟨⟨fun _ => ⟨f1, f2⟩, fun _ => r.g0 a f3⟩, na.2⟩
      · rw [if_neg hn] at q
        exact q.elim
end
section
variable {X : Cx} {K : PySem.W.Frag} {W : Wt} {Δ Δb Δc : List Kd} {o e : Expr} {es : List Expr} {to te : TE} {tA tK : TA} {ga gb g : Gd} {gA gK : List Dt → O (List Dt)} {av fr av' fr' : Bool} {L : Lk} {pos : Pos}
theorem x_index {apos cpos : Pos} (ha : PD X K W Δ o to (.v av fr) ga) (hb : PD X K W Δ e te (.v av' fr') gb)
    (hbase : attributeBase o "index" X.env (eval o X.env) = eval o X.env := by rfl)
    (hfew : ((backTo cpos (starEach [e] X.env)).all (fun x => !x.1) && (backToKw cpos (keywordEach [] X.env)).all (fun x => x.1.isSome)
      && decide ([e].length + ([] : List Keyword).length + (if ([] : List Keyword).isEmpty then 0 else 1) < 30)) = true := by rfl)
    (hline : (apos.endLine == cpos.line) = true := by rfl) (hst : starEach [e] X.env = (false, eval e X.env) :: starEach [] X.env := by rfl) (hplain : (backTo cpos (starEach [] X.env)).any (·.1) = false := by rfl) :
    PD X K W Δ (.Call (.Attribute o "index" apos) [e] [] cpos) (tBM K "list" (rIndex K) to (tCons te tNil)) (.v true true) (gIdx ga gb) :=
  ⟨by have q := pe_bm PySem.F.plainAttrs_list PySem.F.slot_list_index PySem.F.type_list_index (mt_index (X := X)) ha.pe (pa_cons hb.pe pa_nil hst) hbase hfew hline hst hplain; rw [ha.hK] at q; exact q, ha.hK, se_index ha.se hb.se⟩
theorem z_rev (i : Nat) {x : Str} {p p1 p2 : Pos} (hK : X.K = K := by rfl) (hk : Δ[i]? = some (.own .l fr) := by rfl) (hv : Vis X.env.scope x := by first | exact Or.inl rfl | exact Or.inr (Or.inl rfl) | exact Or.inr (Or.inr rfl)) (hN : X.N[i]? = some x := by rfl) (hd : (x == ("__debug__" : Str)) = false := by decide) (hcd : (x == ("__classdict__" : Str)) = false := by decide)
    (hbase : attributeBase (.Name x p) "reverse" X.env (eval (.Name x p) X.env) = eval (.Name x p) X.env := by rfl) (hline : (p1.endLine == p2.line) = true := by rfl)
    (hs : swapsWith (.Call (.Attribute (.Name x p) "reverse" p1) [] [] p2) none pos.line X.env = pure false := by rfl) :
    SD X K W L Δ (Δ.set i (.own .l fr)) Δb Δc (.Expr (.Call (.Attribute (.Name x p) "reverse" p1) [] [] p2) pos) (tDrop (tBM0 K "list" rReverse (tVar i))) (gRvS i) :=
  ⟨by have q := ps_expr (pos := pos) (pe_bm0 PySem.F.plainAttrs_list PySem.F.slot_list_reverse PySem.F.type_list_reverse mt_reverse (pe_var (pos := p) hN hv hd hcd) hbase hline) hs; rw [hK] at q; exact q, hK, s_rev hk⟩
theorem z_clr (i : Nat) {x : Str} {p p1 p2 : Pos} (hK : X.K = K := by rfl) (hk : Δ[i]? = some (.own .l fr) := by rfl) (hv : Vis X.env.scope x := by first | exact Or.inl rfl | exact Or.inr (Or.inl rfl) | exact Or.inr (Or.inr rfl)) (hN : X.N[i]? = some x := by rfl) (hd : (x == ("__debug__" : Str)) = false := by decide) (hcd : (x == ("__classdict__" : Str)) = false := by decide)
    (hbase : attributeBase (.Name x p) "clear" X.env (eval (.Name x p) X.env) = eval (.Name x p) X.env := by rfl) (hline : (p1.endLine == p2.line) = true := by rfl)
    (hs : swapsWith (.Call (.Attribute (.Name x p) "clear" p1) [] [] p2) none pos.line X.env = pure false := by rfl) :
    SD X K W L Δ (Δ.set i (.own .l true)) Δb Δc (.Expr (.Call (.Attribute (.Name x p) "clear" p1) [] [] p2) pos) (tDrop (tBM0 K "list" rClear (tVar i))) (gClr i) :=
  ⟨by have q := ps_expr (pos := pos) (pe_bm0 PySem.F.plainAttrs_list PySem.F.slot_list_clear PySem.F.type_list_clear mt_clear (pe_var (pos := p) hN hv hd hcd) hbase hline) hs; rw [hK] at q; exact q, hK, s_clr hk⟩
theorem z_popS (i : Nat) {x : Str} {p p1 p2 : Pos} (hK : X.K = K := by rfl) (hk : Δ[i]? = some (.own .l fr) := by rfl) (hv : Vis X.env.scope x := by first | exact Or.inl rfl | exact Or.inr (Or.inl rfl) | exact Or.inr (Or.inr rfl)) (hN : X.N[i]? = some x := by rfl) (hd : (x == ("__debug__" : Str)) = false := by decide) (hcd : (x == ("__classdict__" : Str)) = false := by decide)
    (hbase : attributeBase (.Name x p) "pop" X.env (eval (.Name x p) X.env) = eval (.Name x p) X.env := by rfl) (hline : (p1.endLine == p2.line) = true := by rfl)
    (hs : swapsWith (.Call (.Attribute (.Name x p) "pop" p1) [] [] p2) none pos.line X.env = pure false := by rfl) :
    SD X K W L Δ (Δ.set i (.own .l fr)) Δb Δc (.Expr (.Call (.Attribute (.Name x p) "pop" p1) [] [] p2) pos) (tDrop (tBM0 K "list" rPop (tVar i))) (gPopS i) :=
  ⟨by have q := ps_expr (pos := pos) (pe_bm0 PySem.F.plainAttrs_list PySem.F.slot_list_pop PySem.F.type_list_pop mt_pop (pe_var (pos := p) hN hv hd hcd) hbase hline) hs; rw [hK] at q; exact q, hK, s_popS hk⟩
theorem x_callLDf {d : Int} {x : Str} {p : Pos} {CXT' : CXT} {kk nn : Nat} {fa : Addr} {fd : FuncData} {ps : List Str} {gg : List Dt → O Dt} {mg : Str → Option Value} (F : FnOk X.prog X.w X.K X.mg X.base CXT' kk fa fd ps (spL K mg nn gg)) (hr : Room kk X.A) (hm : X.mg x = some (.ref fa)) (hk : PySem.W.keepIn X.K (.ref fa) = true) (hb : ∃ ds, Vals [V.int d] ds ∧ Binds X.K fd ps ds)
    (hx : Passes CXT' X E0) (h : AD X K W Δ (e :: es) tA av fr gA) (hg : Gl X x := by rfl) (hdb : (x == ("__debug__" : Str)) = false := by decide) (he : starEach (e :: es) X.env = (false, eval e X.env) :: starEach es X.env := by rfl) (hpl : (backTo pos (starEach es X.env)).any (·.1) = false := by rfl) :
    PD X K W Δ (.Call (.Name x p) (e :: es) [] pos) (tCall (spL K mg nn gg) [V.int d] E0 tA) (.new .l true) (gCallDf nn gg [.int d] gA) := ⟨by obtain ⟨ds, hd, hb⟩ := hb; exact pe_call F hr hg hm hk hb hd hx h.pa hdb he hpl, h.hK, se_callLDf h.sa⟩
theorem x_callLKw {kws : List Keyword} {nn m m2 : Nat} {x : Str} {p : Pos} {CXT' : CXT} {kk : Nat} {fa : Addr} {fd : FuncData} {ps ks : List Str} {gg : List Dt → O Dt} {mg : Str → Option Value} (F : FnOk X.prog X.w X.K X.mg X.base CXT' kk fa fd ps (spL K mg nn gg)) (hr : Room kk X.A) (hm : X.mg x = some (.ref fa)) (hk : PySem.W.keepIn X.K (.ref fa) = true) (hb : KBn X.K fd ps m ks (fun us ws => us ++ ws) (fun vs zs => vs ++ zs))
    (hx : Passes CXT' X E0) (h : AD X K W Δ (e :: es) tA av fr gA) (hpk : PK X kws tK) (hsk : SA K W Δ tK av' fr' gK) (hm2 : ks.length = m2 := by rfl) (hmn : m + m2 = nn := by rfl) (hg : Gl X x := by rfl) (hdb : (x == ("__debug__" : Str)) = false := by decide) (he : starEach (e :: es) X.env = (false, eval e X.env) :: starEach es X.env := by rfl)
    (hk1 : ((backToKw pos (keywordEach kws X.env)).all fun x => x.1.isSome) = true := by rfl) (hk2 : (backToKw pos (keywordEach kws X.env)).filterMap (fun x => x.1) = ks := by rfl)
    (hk3 : (((backTo pos (starEach (e :: es) X.env)).any fun x => x.1) || (backToKw pos (keywordEach kws X.env)).any fun x => x.1.isNone) = false := by rfl) :
    PD X K W Δ (.Call (.Name x p) (e :: es) kws pos) (tCallN m m2 (spL K mg nn gg) (fun vs zs => vs ++ zs) E0 tA tK) (.new .l true) (gCallKw m nn gg gA gK) := ⟨by subst hm2; exact pe_callN F hr hg hm hk hb hx h.pa hpk hk1 hk2 hdb he hk3, h.hK, se_callLKw h.sa hsk hmn⟩
end
section
variable {X : Cx} {K : PySem.W.Frag} {W : Wt} {Δ : List Kd} {e e2 : Expr} {es : List Expr} {te2 : TE} {tA : TA} {gk : Gd} {gA : List Dt → O (List Dt)} {av fr av' fr' : Bool} {pos : Pos}
theorem x_callLK1 {nm : Option Str} {kp : Pos} {nn m : Nat} {x : Str} {p : Pos} {CXT' : CXT} {kk : Nat} {fa : Addr} {fd : FuncData} {ps ks : List Str} {gg : List Dt → O Dt} {mg : Str → Option Value} (F : FnOk X.prog X.w X.K X.mg X.base CXT' kk fa fd ps (spL K mg nn gg)) (hr : Room kk X.A) (hm : X.mg x = some (.ref fa)) (hk : PySem.W.keepIn X.K (.ref fa) = true) (hb : KBn X.K fd ps m ks (fun us ws => us ++ ws) (fun vs zs => vs ++ zs))
    (hx : Passes CXT' X E0) (h : AD X K W Δ (e :: es) tA av fr gA) (h2 : PD X K W Δ e2 te2 (.v av' fr') gk) (hm2 : ks.length = 1 := by rfl) (hmn : m + 1 = nn := by rfl) (hg : Gl X x := by rfl) (hdb : (x == ("__debug__" : Str)) = false := by decide) (he : starEach (e :: es) X.env = (false, eval e X.env) :: starEach es X.env := by rfl) (hs2 : starEach [e2] X.env = (false, eval e2 X.env) :: starEach [] X.env := by rfl)
    (hk1 : ((backToKw pos (keywordEach [⟨nm, e2, kp⟩] X.env)).all fun x => x.1.isSome) = true := by rfl) (hk2 : (backToKw pos (keywordEach [⟨nm, e2, kp⟩] X.env)).filterMap (fun x => x.1) = ks := by rfl)
    (hk3 : (((backTo pos (starEach (e :: es) X.env)).any fun x => x.1) || (backToKw pos (keywordEach [⟨nm, e2, kp⟩] X.env)).any fun x => x.1.isNone) = false := by rfl) :
    PD X K W Δ (.Call (.Name x p) (e :: es) [⟨nm, e2, kp⟩] pos) (tCallN m 1 (spL K mg nn gg) (fun vs zs => vs ++ zs) E0 tA (tCons te2 tNil)) (.new .l true) (gCallKw m nn gg gA (gCons gk gNil)) := ⟨by rw [← hm2]; exact pe_callN F hr hg hm hk hb hx h.pa (pk_cons h2.pe pk_nil) hk1 hk2 hdb he hk3, h.hK, se_callLKw h.sa (a_cons h2 (a_nil h2.hK) hs2).sa hmn⟩
end
theorem idx_ok {ga gb : Gd} {ρ : List Dt} {ns : List Int} {k : Int} (h1 : ga ρ = .ok (.list (ns.map .int))) (h2 : gb ρ = .ok (.int k)) (h3 : k ∈ ns) : gIdx ga gb ρ = .ok (.int ((ns.idxOf k : Nat) : Int)) := by
  unfold gIdx hIdx
  rw [h1, bnd_ok]
  simp only [h2, bnd_ok, allI_map, if_pos h3]
theorem callDf_ok {n : Nat} {g : List Dt → O Dt} {d0 : List Dt} {gA : List Dt → O (List Dt)} {ρ ds : List Dt} {d : Dt} (h1 : gA ρ = .ok ds) (h2 : (ds ++ d0).length = n) (h3 : g (ds ++ d0) = .ok d) : gCallDf n g d0 gA ρ = .ok d := by
  unfold gCallDf
  rw [h1, bnd_ok, if_pos h2, h3]
theorem callKw_ok {m n : Nat} {g : List Dt → O Dt} {gA gK : List Dt → O (List Dt)} {ρ ds es : List Dt} {d : Dt} (h1 : gA ρ = .ok ds) (h1' : gK ρ = .ok es) (h2 : ds.length = m ∧ (ds ++ es).length = n) (h3 : g (ds ++ es) = .ok d) : gCallKw m n g gA gK ρ = .ok d := by
  unfold gCallKw
  rw [h1, bnd_ok, h1', bnd_ok, if_pos h2, h3]
end Sim
end T_SimY

section T_FamA
set_option linter.all false
namespace FamA
open PySem Sim
def g_l_mixed : Gs := gSeqS (gSet 2 (gOp hMod (gOp hMul (gOp hAdd (gOp hAdd (gOp hMod (gVar 0) (gC (.int (2147483629)))) (gOp hMul (gC (.int (7919))) (gVar 1))) (gC (.int (11)))) (gC (.int (48271)))) (gC (.int (2147483647))))) (gSeqS (gSet 2 (gOp hMod (gOp hAdd (gOp hMod (gOp hMul (gVar 2) (gVar 2)) (gC (.int (2147483629)))) (gOp hMul (gC (.int (104729))) (gVar 1))) (gC (.int (2147483629))))) (gRet (gOp hMod (gOp hMul (gVar 2) (gC (.int (39373)))) (gC (.int (2147483647))))))
def f_l_mixed : List Dt → O Dt := fnN 3 g_l_mixed
def g_l_numbers_L1 : Gs := gSeqS (gSet 6 (gOp hAdd (gOp hMul (gVar 6) (gC (.int (2147483647)))) (gCallN 2 f_l_mixed (gCons (gVar 0) (gCons (gOp hAdd (gOp hMul (gC (.int (8))) (gVar 5)) (gVar 7)) (gNil)))))) (gSet 7 (gOp hAdd (gVar 7) (gC (.int (1)))))
def g_l_numbers_T1 : List Dt → O Bool := gTest (gOp hLt (gOp hMul (gVar 7) (gC (.int (30)))) (gOp hAdd (gUn hBits (gVar 2)) (gC (.int (8)))))
def g_l_numbers_L2 : Gs := gSeqS (gSet 6 (gVar 4)) (gSeqS (gIfS (gTest (gOp hGt (gVar 4) (gC (.int (0))))) (gSet 4 (gOp hDiv (gVar 4) (gVar 2))) (gSeqS (gSet 6 (gC (.int (0)))) (gSeqS (gSet 7 (gC (.int (0)))) (gWhile g_l_numbers_T1 g_l_numbers_L1 100)))) (gApp 3 (gOp hMod (gVar 6) (gVar 2))))
def g_l_numbers : Gs := gSeqS (gSet 3 (gLst (gNil))) (gSeqS (gSet 4 (gOp hSub (gVar 0) (gOp hPow (gC (.int (10))) (gC (.int (18)))))) (gSeqS (gFor (gRng1 (gCons (gVar 1) (gNil))) (tgN 5) g_l_numbers_L2) (gRet (gVar 3))))
def f_l_numbers : List Dt → O Dt := fnL 8 g_l_numbers
def g_l_ends : Gs := gSeqS (gSet 4 (gOp hMod (gVar 2) (gVar 0))) (gSeqS (gIfS (gTest (gOp hEq (gVar 1) (gC (.int (0))))) (gRet (gTup (gCons (gVar 4) (gCons (gOp hMod (gVar 3) (gVar 0)) (gNil))))) (gNext)) (gSeqS (gIfS (gTest (gOp hEq (gVar 1) (gC (.int (1))))) (gRet (gTup (gCons (gOp hMod (gVar 2) (gCB hMin2 (gCons (gVar 0) (gCons (gC (.int (3))) (gNil))))) (gCons (gOp hMod (gVar 3) (gCB hMin2 (gCons (gVar 0) (gCons (gC (.int (2))) (gNil))))) (gNil))))) (gNext)) (gSeqS (gIfS (gTest (gOp hEq (gVar 1) (gC (.int (2))))) (gRet (gTup (gCons (gVar 4) (gCons (gOp hMod (gOp hAdd (gOp hAdd (gVar 4) (gC (.int (1)))) (gOp hDiv (gOp hMod (gVar 3) (gC (.int (5)))) (gC (.int (4))))) (gVar 0)) (gNil))))) (gNext)) (gRet (gTup (gCons (gVar 4) (gCons (gOp hMod (gOp hAdd (gVar 4) (gOp hMul (gC (.int (2))) (gOp hMod (gVar 3) (gVar 0)))) (gVar 0)) (gNil))))))))
def f_l_ends : List Dt → O Dt := fnN 5 g_l_ends
def g_l_record_L1 : Gs := gSeqS (gAsg (gCallN 4 f_l_ends (gCons (gVar 2) (gCons (gOp hMod (gOp hIx (gVar 0) (gC (.int (3)))) (gC (.int (4)))) (gCons (gOp hIx (gVar 0) (gOp hAdd (gC (.int (4))) (gOp hMul (gC (.int (3))) (gVar 7)))) (gCons (gOp hIx (gVar 0) (gOp hAdd (gC (.int (5))) (gOp hMul (gC (.int (3))) (gVar 7)))) (gNil)))))) (tgT (tgCons (tgN 8) (tgCons (tgN 9) (tgNil))))) (gSeqS (gApp 6 (gTup (gCons (gVar 5) (gCons (gCB hMin2 (gCons (gVar 8) (gCons (gVar 9) (gNil)))) (gCons (gCB hMax2 (gCons (gVar 8) (gCons (gVar 9) (gNil)))) (gNil)))))) (gSet 5 (gOp hAdd (gOp hAdd (gVar 5) (gC (.int (1)))) (gOp hMod (gOp hIx (gVar 0) (gOp hAdd (gC (.int (6))) (gOp hMul (gC (.int (3))) (gVar 7)))) (gVar 4)))))
def g_l_record : Gs := gSeqS (gSet 2 (gOp hAdd (gC (.int (1))) (gOp hMod (gOp hIx (gVar 0) (gC (.int (0)))) (gC (.int (6)))))) (gSeqS (gIfS (gTest (gOp hEq (gOp hMod (gOp hDiv (gOp hIx (gVar 0) (gC (.int (0)))) (gC (.int (6)))) (gC (.int (8)))) (gC (.int (1))))) (gSet 2 (gOp hAdd (gC (.int (7))) (gOp hMod (gOp hDiv (gOp hIx (gVar 0) (gC (.int (0)))) (gC (.int (48)))) (gC (.int (4)))))) (gNext)) (gSeqS (gSet 3 (gOp hMod (gOp hIx (gVar 0) (gC (.int (1)))) (gC (.int (13))))) (gSeqS (gIfS (gTest (gOp hEq (gOp hMod (gOp hDiv (gOp hIx (gVar 0) (gC (.int (1)))) (gC (.int (13)))) (gC (.int (8)))) (gC (.int (1))))) (gSet 3 (gOp hAdd (gC (.int (13))) (gOp hMod (gOp hDiv (gOp hIx (gVar 0) (gC (.int (1)))) (gC (.int (104)))) (gC (.int (48)))))) (gNext)) (gSeqS (gSet 4 (gOp hIx (gLst (gCons (gC (.int (1))) (gCons (gC (.int (4))) (gCons (gOp hPow (gC (.int (10))) (gC (.int (28)))) (gNil))))) (gOp hMod (gOp hIx (gVar 0) (gC (.int (2)))) (gC (.int (3)))))) (gSeqS (gSet 5 (gOp hIx (gLst (gCons (gC (.int (0))) (gCons (gOp hMod (gOp hDiv (gOp hIx (gVar 0) (gC (.int (2)))) (gC (.int (12)))) (gC (.int (100)))) (gCons (gOp hMod (gOp hIx (gVar 0) (gC (.int (3)))) (gOp hPow (gC (.int (10))) (gC (.int (29))))) (gNil))))) (gOp hMod (gOp hDiv (gOp hIx (gVar 0) (gC (.int (2)))) (gC (.int (3)))) (gC (.int (3)))))) (gSeqS (gSet 6 (gLst (gNil))) (gSeqS (gFor (gRng1 (gCons (gCB hMin3 (gCons (gVar 3) (gCons (gVar 1) (gCons (gOp hDiv (gOp hSub (gCB hLen (gCons (gVar 0) (gNil))) (gC (.int (4)))) (gC (.int (3)))) (gNil))))) (gNil))) (tgN 7) g_l_record_L1) (gRet (gTup (gCons (gVar 2) (gCons (gVar 6) (gNil))))))))))))
def f_l_record : List Dt → O Dt := fnN 10 g_l_record
end FamA
end T_FamA

section T_FamAP
set_option linter.all false
set_option maxRecDepth 100000
namespace FamA
open PySem Sim

abbrev B30 : Int := 1000000000000000000000000000000
theorem mixed_ok (cell k : Int) : ∃ z, f_l_mixed [.int cell, .int k] = .ok (.int z) ∧ 0 ≤ z ∧ z < 2147483647 := by
  unfold f_l_mixed fnN g_l_mixed
  simp (disch := omega) only [bnd_ok, gVar_def, gC_def, gOp_def, gUn_def, gNil_def, gCons_def, gIf_def, gTest_def, gNot_def, gAnd_def, gOr_def, gAndV_def, gOrV_def, gNotV_def, gCB_def, asB_b, hAdd_i, hSub_i, hLt_i, hLe_i, hGt_i, hGe_i, hMul_r, hMul_l, hMod_i, hDiv_s, hBand_i, hShr_i, hPow_10_18, hPow_10_27, hPow_10_28, hPow_10_29, hPow_10_30, hEq_i, hNe_i, hLen_l, hLen_t, hMin2_i, hMax2_i, hMin3_i, hInt1_b, hInt1_i, hBits_i, hListOf_l, hListOf_t, hTupOf_l, hTupOf_t, gSeqS_def, gSet_def, gRet_def, gIfS_def, gNext_def, gTup_def, gLst_def, List.getElem?_cons_zero, List.getElem?_cons_succ, List.set_cons_zero, List.set_cons_succ, List.length_cons, List.length_nil, Nat.zero_add, Nat.reduceAdd, Nat.reduceLeDiff, Nat.reduceSub, Nat.reduceMul, if_true, if_false, Bool.false_eq_true, List.replicate_succ, List.replicate_zero, List.cons_append, List.nil_append, tgN, tgT, tgCons, tgNil, Int.reducePow, Int.reduceAdd, Int.reduceSub, Int.reduceMul, decide_true, decide_false, Bool.not_true, Bool.not_false, gChain_def, hIsa_int, hIsa_intb, hIsa_list, hIsa_tuple, gDrop_def]
  exact ⟨_, rfl, by omega, by omega⟩
theorem ends_ok (n kind one other : Int) (hn : 1 ≤ n) : ∃ a b, f_l_ends [.int n, .int kind, .int one, .int other] = .ok (.tuple [.int a, .int b]) ∧ 0 ≤ a ∧ a < n ∧ 0 ≤ b ∧ b < n := by
  unfold f_l_ends fnN g_l_ends
  have m0 := fun x : Int => Int.emod_nonneg x (show n ≠ 0 by omega)
  have m1 := fun x : Int => Int.emod_lt_of_pos x (show 0 < n by omega)
  by_cases h0 : kind = 0
  · subst h0
    simp (disch := omega) only [bnd_ok, gVar_def, gC_def, gOp_def, gUn_def, gNil_def, gCons_def, gIf_def, gTest_def, gNot_def, gAnd_def, gOr_def, gAndV_def, gOrV_def, gNotV_def, gCB_def, asB_b, hAdd_i, hSub_i, hLt_i, hLe_i, hGt_i, hGe_i, hMul_r, hMul_l, hMod_i, hDiv_s, hBand_i, hShr_i, hPow_10_18, hPow_10_27, hPow_10_28, hPow_10_29, hPow_10_30, hEq_i, hNe_i, hLen_l, hLen_t, hMin2_i, hMax2_i, hMin3_i, hInt1_b, hInt1_i, hBits_i, hListOf_l, hListOf_t, hTupOf_l, hTupOf_t, gSeqS_def, gSet_def, gRet_def, gIfS_def, gNext_def, gTup_def, gLst_def, List.getElem?_cons_zero, List.getElem?_cons_succ, List.set_cons_zero, List.set_cons_succ, List.length_cons, List.length_nil, Nat.zero_add, Nat.reduceAdd, Nat.reduceLeDiff, Nat.reduceSub, Nat.reduceMul, if_true, if_false, Bool.false_eq_true, List.replicate_succ, List.replicate_zero, List.cons_append, List.nil_append, tgN, tgT, tgCons, tgNil, Int.reducePow, Int.reduceAdd, Int.reduceSub, Int.reduceMul, decide_true, decide_false, Bool.not_true, Bool.not_false, gChain_def, hIsa_int, hIsa_intb, hIsa_list, hIsa_tuple, gDrop_def, beq_self_eq_true]
    exact ⟨_, _, rfl, m0 _, m1 _, m0 _, m1 _⟩
  · have e0 : (kind == 0) = false := beq_eq_false_iff_ne.mpr h0
    by_cases h1 : kind = 1
    · subst h1
      have q3 : 0 < (if (3 : Int) < n then 3 else n) := by split <;> omega
      have q2 : 0 < (if (2 : Int) < n then 2 else n) := by split <;> omega
      have q3' : (if (3 : Int) < n then 3 else n) ≤ n := by split <;> omega
      have q2' : (if (2 : Int) < n then 2 else n) ≤ n := by split <;> omega
      have p0 := Int.emod_nonneg one (show (if (3 : Int) < n then 3 else n) ≠ 0 by omega)
      have p1 := Int.emod_lt_of_pos one q3
      have p2 := Int.emod_nonneg other (show (if (2 : Int) < n then 2 else n) ≠ 0 by omega)
      have p3 := Int.emod_lt_of_pos other q2
      simp (disch := first | assumption | omega) only [bnd_ok, gVar_def, gC_def, gOp_def, gUn_def, gNil_def, gCons_def, gIf_def, gTest_def, gNot_def, gAnd_def, gOr_def, gAndV_def, gOrV_def, gNotV_def, gCB_def, asB_b, hAdd_i, hSub_i, hLt_i, hLe_i, hGt_i, hGe_i, hMul_r, hMul_l, hMod_i, hDiv_s, hBand_i, hShr_i, hPow_10_18, hPow_10_27, hPow_10_28, hPow_10_29, hPow_10_30, hEq_i, hNe_i, hLen_l, hLen_t, hMin2_i, hMax2_i, hMin3_i, hInt1_b, hInt1_i, hBits_i, hListOf_l, hListOf_t, hTupOf_l, hTupOf_t, gSeqS_def, gSet_def, gRet_def, gIfS_def, gNext_def, gTup_def, gLst_def, List.getElem?_cons_zero, List.getElem?_cons_succ, List.set_cons_zero, List.set_cons_succ, List.length_cons, List.length_nil, Nat.zero_add, Nat.reduceAdd, Nat.reduceLeDiff, Nat.reduceSub, Nat.reduceMul, if_true, if_false, Bool.false_eq_true, List.replicate_succ, List.replicate_zero, List.cons_append, List.nil_append, tgN, tgT, tgCons, tgNil, Int.reducePow, Int.reduceAdd, Int.reduceSub, Int.reduceMul, decide_true, decide_false, Bool.not_true, Bool.not_false, gChain_def, hIsa_int, hIsa_intb, hIsa_list, hIsa_tuple, gDrop_def, beq_self_eq_true, e0]
      exact ⟨_, _, rfl, p0, Int.lt_of_lt_of_le p1 q3', p2, Int.lt_of_lt_of_le p3 q2'⟩
    · have e1 : (kind == 1) = false := beq_eq_false_iff_ne.mpr h1
      by_cases h2 : kind = 2
      · subst h2
        simp (disch := omega) only [bnd_ok, gVar_def, gC_def, gOp_def, gUn_def, gNil_def, gCons_def, gIf_def, gTest_def, gNot_def, gAnd_def, gOr_def, gAndV_def, gOrV_def, gNotV_def, gCB_def, asB_b, hAdd_i, hSub_i, hLt_i, hLe_i, hGt_i, hGe_i, hMul_r, hMul_l, hMod_i, hDiv_s, hBand_i, hShr_i, hPow_10_18, hPow_10_27, hPow_10_28, hPow_10_29, hPow_10_30, hEq_i, hNe_i, hLen_l, hLen_t, hMin2_i, hMax2_i, hMin3_i, hInt1_b, hInt1_i, hBits_i, hListOf_l, hListOf_t, hTupOf_l, hTupOf_t, gSeqS_def, gSet_def, gRet_def, gIfS_def, gNext_def, gTup_def, gLst_def, List.getElem?_cons_zero, List.getElem?_cons_succ, List.set_cons_zero, List.set_cons_succ, List.length_cons, List.length_nil, Nat.zero_add, Nat.reduceAdd, Nat.reduceLeDiff, Nat.reduceSub, Nat.reduceMul, if_true, if_false, Bool.false_eq_true, List.replicate_succ, List.replicate_zero, List.cons_append, List.nil_append, tgN, tgT, tgCons, tgNil, Int.reducePow, Int.reduceAdd, Int.reduceSub, Int.reduceMul, decide_true, decide_false, Bool.not_true, Bool.not_false, gChain_def, hIsa_int, hIsa_intb, hIsa_list, hIsa_tuple, gDrop_def, beq_self_eq_true, e0, e1]
        exact ⟨_, _, rfl, m0 _, m1 _, m0 _, m1 _⟩
      · have e2 : (kind == 2) = false := beq_eq_false_iff_ne.mpr h2
        simp (disch := omega) only [bnd_ok, gVar_def, gC_def, gOp_def, gUn_def, gNil_def, gCons_def, gIf_def, gTest_def, gNot_def, gAnd_def, gOr_def, gAndV_def, gOrV_def, gNotV_def, gCB_def, asB_b, hAdd_i, hSub_i, hLt_i, hLe_i, hGt_i, hGe_i, hMul_r, hMul_l, hMod_i, hDiv_s, hBand_i, hShr_i, hPow_10_18, hPow_10_27, hPow_10_28, hPow_10_29, hPow_10_30, hEq_i, hNe_i, hLen_l, hLen_t, hMin2_i, hMax2_i, hMin3_i, hInt1_b, hInt1_i, hBits_i, hListOf_l, hListOf_t, hTupOf_l, hTupOf_t, gSeqS_def, gSet_def, gRet_def, gIfS_def, gNext_def, gTup_def, gLst_def, List.getElem?_cons_zero, List.getElem?_cons_succ, List.set_cons_zero, List.set_cons_succ, List.length_cons, List.length_nil, Nat.zero_add, Nat.reduceAdd, Nat.reduceLeDiff, Nat.reduceSub, Nat.reduceMul, if_true, if_false, Bool.false_eq_true, List.replicate_succ, List.replicate_zero, List.cons_append, List.nil_append, tgN, tgT, tgCons, tgNil, Int.reducePow, Int.reduceAdd, Int.reduceSub, Int.reduceMul, decide_true, decide_false, Bool.not_true, Bool.not_false, gChain_def, hIsa_int, hIsa_intb, hIsa_list, hIsa_tuple, gDrop_def, e0, e1, e2]
        exact ⟨_, _, rfl, m0 _, m1 _, m0 _, m1 _⟩

theorem bits30 : Builtin.Int.intBits 1000000000000000000000000000000 = 100 := by decide +kernel
def wB : Gs := gSeqS (gSet 6 (gOp hAdd (gOp hMul (gVar 6) (gC (.int (2147483647)))) (gCallN 2 f_l_mixed (gCons (gVar 0) (gCons (gOp hAdd (gOp hMul (gC (.int (8))) (gVar 5)) (gVar 7)) (gNil)))))) (gSet 7 (gOp hAdd (gVar 7) (gC (.int (1)))))
def wT : List Dt → O Bool := gTest (gOp hLt (gOp hMul (gVar 7) (gC (.int (30)))) (gOp hAdd (gUn hBits (gVar 2)) (gC (.int (8)))))
theorem wB_ok (c k x t : Int) (a f l : Dt) : ∃ y, wB [.int c, a, .int B30, f, l, .int k, .int x, .int t] = .ok (.nx [.int c, a, .int B30, f, l, .int k, .int y, .int (t + 1)]) := by
  obtain ⟨z, hz, _, _⟩ := mixed_ok c (8 * k + t)
  unfold wB
  have h1 : gCallN 2 f_l_mixed (gCons (gVar 0) (gCons (gOp hAdd (gOp hMul (gC (.int (8))) (gVar 5)) (gVar 7)) (gNil))) [.int c, a, .int B30, f, l, .int k, .int x, .int t] = .ok (.int z) := by
    refine callN_ok (ds := [.int c, .int (8 * k + t)]) ?_ rfl hz
    simp (disch := omega) only [bnd_ok, gVar_def, gC_def, gOp_def, gUn_def, gNil_def, gCons_def, gIf_def, gTest_def, gNot_def, gAnd_def, gOr_def, gAndV_def, gOrV_def, gNotV_def, gCB_def, asB_b, hAdd_i, hSub_i, hLt_i, hLe_i, hGt_i, hGe_i, hMul_r, hMul_l, hMod_i, hDiv_s, hBand_i, hShr_i, hPow_10_18, hPow_10_27, hPow_10_28, hPow_10_29, hPow_10_30, hEq_i, hNe_i, hLen_l, hLen_t, hMin2_i, hMax2_i, hMin3_i, hInt1_b, hInt1_i, hBits_i, hListOf_l, hListOf_t, hTupOf_l, hTupOf_t, gSeqS_def, gSet_def, gRet_def, gIfS_def, gNext_def, gTup_def, gLst_def, List.getElem?_cons_zero, List.getElem?_cons_succ, List.set_cons_zero, List.set_cons_succ, List.length_cons, List.length_nil, Nat.zero_add, Nat.reduceAdd, Nat.reduceLeDiff, Nat.reduceSub, Nat.reduceMul, if_true, if_false, Bool.false_eq_true, List.replicate_succ, List.replicate_zero, List.cons_append, List.nil_append, tgN, tgT, tgCons, tgNil, Int.reducePow, Int.reduceAdd, Int.reduceSub, Int.reduceMul, decide_true, decide_false, Bool.not_true, Bool.not_false, gChain_def, hIsa_int, hIsa_intb, hIsa_list, hIsa_tuple, gDrop_def]
  simp (disch := omega) only [bnd_ok, gVar_def, gC_def, gOp_def, gUn_def, gNil_def, gCons_def, gIf_def, gTest_def, gNot_def, gAnd_def, gOr_def, gAndV_def, gOrV_def, gNotV_def, gCB_def, asB_b, hAdd_i, hSub_i, hLt_i, hLe_i, hGt_i, hGe_i, hMul_r, hMul_l, hMod_i, hDiv_s, hBand_i, hShr_i, hPow_10_18, hPow_10_27, hPow_10_28, hPow_10_29, hPow_10_30, hEq_i, hNe_i, hLen_l, hLen_t, hMin2_i, hMax2_i, hMin3_i, hInt1_b, hInt1_i, hBits_i, hListOf_l, hListOf_t, hTupOf_l, hTupOf_t, gSeqS_def, gSet_def, gRet_def, gIfS_def, gNext_def, gTup_def, gLst_def, List.getElem?_cons_zero, List.getElem?_cons_succ, List.set_cons_zero, List.set_cons_succ, List.length_cons, List.length_nil, Nat.zero_add, Nat.reduceAdd, Nat.reduceLeDiff, Nat.reduceSub, Nat.reduceMul, if_true, if_false, Bool.false_eq_true, List.replicate_succ, List.replicate_zero, List.cons_append, List.nil_append, tgN, tgT, tgCons, tgNil, Int.reducePow, Int.reduceAdd, Int.reduceSub, Int.reduceMul, decide_true, decide_false, Bool.not_true, Bool.not_false, gChain_def, hIsa_int, hIsa_intb, hIsa_list, hIsa_tuple, gDrop_def, h1]
  exact ⟨_, rfl⟩
theorem wT_ok (c k x t : Int) (a f l : Dt) : wT [.int c, a, .int B30, f, l, .int k, .int x, .int t] = .ok (decide (t * 30 < 108)) := by
  unfold wT
  simp (disch := omega) only [bnd_ok, gVar_def, gC_def, gOp_def, gUn_def, gNil_def, gCons_def, gIf_def, gTest_def, gNot_def, gAnd_def, gOr_def, gAndV_def, gOrV_def, gNotV_def, gCB_def, asB_b, hAdd_i, hSub_i, hLt_i, hLe_i, hGt_i, hGe_i, hMul_r, hMul_l, hMod_i, hDiv_s, hBand_i, hShr_i, hPow_10_18, hPow_10_27, hPow_10_28, hPow_10_29, hPow_10_30, hEq_i, hNe_i, hLen_l, hLen_t, hMin2_i, hMax2_i, hMin3_i, hInt1_b, hInt1_i, hBits_i, hListOf_l, hListOf_t, hTupOf_l, hTupOf_t, gSeqS_def, gSet_def, gRet_def, gIfS_def, gNext_def, gTup_def, gLst_def, List.getElem?_cons_zero, List.getElem?_cons_succ, List.set_cons_zero, List.set_cons_succ, List.length_cons, List.length_nil, Nat.zero_add, Nat.reduceAdd, Nat.reduceLeDiff, Nat.reduceSub, Nat.reduceMul, if_true, if_false, Bool.false_eq_true, List.replicate_succ, List.replicate_zero, List.cons_append, List.nil_append, tgN, tgT, tgCons, tgNil, Int.reducePow, Int.reduceAdd, Int.reduceSub, Int.reduceMul, decide_true, decide_false, Bool.not_true, Bool.not_false, gChain_def, hIsa_int, hIsa_intb, hIsa_list, hIsa_tuple, gDrop_def, bits30]
  rfl
theorem wh_ok (c k : Int) (a f l : Dt) : ∃ y, gWhile wT wB 100 [.int c, a, .int B30, f, l, .int k, .int 0, .int 0] = .ok (.nx [.int c, a, .int B30, f, l, .int k, .int y, .int 4]) := by
  obtain ⟨y1, h1⟩ := wB_ok c k 0 0 a f l
  obtain ⟨y2, h2⟩ := wB_ok c k y1 1 a f l
  obtain ⟨y3, h3⟩ := wB_ok c k y2 2 a f l
  obtain ⟨y4, h4⟩ := wB_ok c k y3 3 a f l
  refine ⟨y4, ?_⟩
  rw [while_t (n := 99) (wT_ok c k 0 0 a f l) h1]
  show gWhile wT wB 99 [.int c, a, .int B30, f, l, .int k, .int y1, .int 1] = _
  rw [while_t (n := 98) (wT_ok c k y1 1 a f l) h2]
  show gWhile wT wB 98 [.int c, a, .int B30, f, l, .int k, .int y2, .int 2] = _
  rw [while_t (n := 97) (wT_ok c k y2 2 a f l) h3]
  show gWhile wT wB 97 [.int c, a, .int B30, f, l, .int k, .int y3, .int 3] = _
  rw [while_t (n := 96) (wT_ok c k y3 3 a f l) h4]
  exact while_f (wT_ok c k y4 4 a f l)
theorem numbers_ok (cell many : Int) (h0 : 0 ≤ many) (h1 : many ≤ 1000) : ∃ xs : List Int, f_l_numbers [.int cell, .int many, .int B30] = .ok (.list (xs.map .int)) ∧ xs.length = many.toNat ∧ ∀ x ∈ xs, 0 ≤ x ∧ x < B30 := by
  obtain ⟨n, rfl⟩ : ∃ n : Nat, many = n := ⟨many.toNat, by omega⟩
  obtain ⟨ρ', hf, xs, l, d5, d6, d7, rfl, hl, hx⟩ := forE_ix (fun (k : Nat) => PyData.int (k : Int)) (h := tgN 5)
    (b := gSeqS (gSet 6 (gVar 4)) (gSeqS (gIfS (gTest (gOp hGt (gVar 4) (gC (.int (0))))) (gSet 4 (gOp hDiv (gVar 4) (gVar 2))) (gSeqS (gSet 6 (gC (.int (0)))) (gSeqS (gSet 7 (gC (.int (0)))) (gWhile wT wB 100)))) (gApp 3 (gOp hMod (gVar 6) (gVar 2)))))
    (List.range n) (fun i ρ => ∃ (xs : List Int) (l : Int) (d5 d6 d7 : Dt), ρ = [.int cell, .int n, .int B30, .list (xs.map .int), .int l, d5, d6, d7] ∧ xs.length = i ∧ ∀ x ∈ xs, 0 ≤ x ∧ x < B30)
    (ρ := [.int cell, .int n, .int B30, .list [], .int (cell - 1000000000000000000), .none, .none, .none]) ⟨[], _, _, _, _, rfl, rfl, by simp⟩ (by
      rintro i ρ hi ⟨xs, l, d5, d6, d7, rfl, hl, hx⟩
      rw [List.getElem_range]
      rw [List.length_range] at hi
      have app : ∀ (l x : Int) (d7 : Dt), gApp 3 (gOp hMod (gVar 6) (gVar 2)) [.int cell, .int n, .int B30, .list (xs.map .int), .int l, .int i, .int x, d7] = .ok (.nx [.int cell, .int n, .int B30, .list ((xs ++ [x % B30]).map .int), .int l, .int i, .int x, d7]) := fun l x d7 => by
        refine (gApp_l (ds := xs.map .int) (d := .int (x % B30)) rfl ?_ (by rw [List.length_map]; omega)).trans ?_
        · simp (disch := first | omega | decide) only [bnd_ok, gVar_def, gC_def, gOp_def, gUn_def, gNil_def, gCons_def, gIf_def, gTest_def, gNot_def, gAnd_def, gOr_def, gAndV_def, gOrV_def, gNotV_def, gCB_def, asB_b, hAdd_i, hSub_i, hLt_i, hLe_i, hGt_i, hGe_i, hMul_r, hMul_l, hMod_i, hDiv_s, hBand_i, hShr_i, hPow_10_18, hPow_10_27, hPow_10_28, hPow_10_29, hPow_10_30, hEq_i, hNe_i, hLen_l, hLen_t, hMin2_i, hMax2_i, hMin3_i, hInt1_b, hInt1_i, hBits_i, hListOf_l, hListOf_t, hTupOf_l, hTupOf_t, gSeqS_def, gSet_def, gRet_def, gIfS_def, gNext_def, gTup_def, gLst_def, List.getElem?_cons_zero, List.getElem?_cons_succ, List.set_cons_zero, List.set_cons_succ, List.length_cons, List.length_nil, Nat.zero_add, Nat.reduceAdd, Nat.reduceLeDiff, Nat.reduceSub, Nat.reduceMul, if_true, if_false, Bool.false_eq_true, List.replicate_succ, List.replicate_zero, List.cons_append, List.nil_append, tgN, tgT, tgCons, tgNil, Int.reducePow, Int.reduceAdd, Int.reduceSub, Int.reduceMul, decide_true, decide_false, Bool.not_true, Bool.not_false, gChain_def, hIsa_int, hIsa_intb, hIsa_list, hIsa_tuple, gDrop_def]
        · rw [map_snoc]; rfl
      have fin : ∀ (x : Int), ∀ y ∈ xs ++ [x % B30], 0 ≤ y ∧ y < B30 := fun x y hy => by
        rcases List.mem_append.mp hy with h | h
        · exact hx y h
        · have := List.mem_singleton.mp h
          subst this
          unfold B30
          constructor <;> omega
      by_cases hp : 0 < l
      · refine ⟨_, _, rfl, .inl ?_, xs ++ [l % B30], l / B30, .int i, .int l, d7, rfl, by rw [List.length_append, hl]; rfl, fin l⟩
        have e : decide (0 < l) = true := decide_eq_true hp
        simp (disch := first | omega | decide) only [bnd_ok, gVar_def, gC_def, gOp_def, gUn_def, gNil_def, gCons_def, gIf_def, gTest_def, gNot_def, gAnd_def, gOr_def, gAndV_def, gOrV_def, gNotV_def, gCB_def, asB_b, hAdd_i, hSub_i, hLt_i, hLe_i, hGt_i, hGe_i, hMul_r, hMul_l, hMod_i, hDiv_s, hBand_i, hShr_i, hPow_10_18, hPow_10_27, hPow_10_28, hPow_10_29, hPow_10_30, hEq_i, hNe_i, hLen_l, hLen_t, hMin2_i, hMax2_i, hMin3_i, hInt1_b, hInt1_i, hBits_i, hListOf_l, hListOf_t, hTupOf_l, hTupOf_t, gSeqS_def, gSet_def, gRet_def, gIfS_def, gNext_def, gTup_def, gLst_def, List.getElem?_cons_zero, List.getElem?_cons_succ, List.set_cons_zero, List.set_cons_succ, List.length_cons, List.length_nil, Nat.zero_add, Nat.reduceAdd, Nat.reduceLeDiff, Nat.reduceSub, Nat.reduceMul, if_true, if_false, Bool.false_eq_true, List.replicate_succ, List.replicate_zero, List.cons_append, List.nil_append, tgN, tgT, tgCons, tgNil, Int.reducePow, Int.reduceAdd, Int.reduceSub, Int.reduceMul, decide_true, decide_false, Bool.not_true, Bool.not_false, gChain_def, hIsa_int, hIsa_intb, hIsa_list, hIsa_tuple, gDrop_def, e, app]
      · obtain ⟨y, hy⟩ := wh_ok cell i (.int n) (.list (xs.map .int)) (.int l)
        refine ⟨_, _, rfl, .inl ?_, xs ++ [y % B30], l, .int i, .int y, .int 4, rfl, by rw [List.length_append, hl]; rfl, fin y⟩
        have e : decide (0 < l) = false := decide_eq_false hp
        simp (disch := first | omega | decide) only [bnd_ok, gVar_def, gC_def, gOp_def, gUn_def, gNil_def, gCons_def, gIf_def, gTest_def, gNot_def, gAnd_def, gOr_def, gAndV_def, gOrV_def, gNotV_def, gCB_def, asB_b, hAdd_i, hSub_i, hLt_i, hLe_i, hGt_i, hGe_i, hMul_r, hMul_l, hMod_i, hDiv_s, hBand_i, hShr_i, hPow_10_18, hPow_10_27, hPow_10_28, hPow_10_29, hPow_10_30, hEq_i, hNe_i, hLen_l, hLen_t, hMin2_i, hMax2_i, hMin3_i, hInt1_b, hInt1_i, hBits_i, hListOf_l, hListOf_t, hTupOf_l, hTupOf_t, gSeqS_def, gSet_def, gRet_def, gIfS_def, gNext_def, gTup_def, gLst_def, List.getElem?_cons_zero, List.getElem?_cons_succ, List.set_cons_zero, List.set_cons_succ, List.length_cons, List.length_nil, Nat.zero_add, Nat.reduceAdd, Nat.reduceLeDiff, Nat.reduceSub, Nat.reduceMul, if_true, if_false, Bool.false_eq_true, List.replicate_succ, List.replicate_zero, List.cons_append, List.nil_append, tgN, tgT, tgCons, tgNil, Int.reducePow, Int.reduceAdd, Int.reduceSub, Int.reduceMul, decide_true, decide_false, Bool.not_true, Bool.not_false, gChain_def, hIsa_int, hIsa_intb, hIsa_list, hIsa_tuple, gDrop_def, e, hy, app])
  refine ⟨xs, ?_, by rw [hl, List.length_range]; omega, hx⟩
  refine fnL_rt ?_
  show g_l_numbers [.int cell, .int n, .int B30, .none, .none, .none, .none, .none] = _
  unfold g_l_numbers
  have e1 : gSet 3 (gLst gNil) [.int cell, .int n, .int B30, .none, .none, .none, .none, .none] = .ok (.nx [.int cell, .int n, .int B30, .list [], .none, .none, .none, .none]) := by
    simp (disch := first | omega | decide) only [bnd_ok, gVar_def, gC_def, gOp_def, gUn_def, gNil_def, gCons_def, gIf_def, gTest_def, gNot_def, gAnd_def, gOr_def, gAndV_def, gOrV_def, gNotV_def, gCB_def, asB_b, hAdd_i, hSub_i, hLt_i, hLe_i, hGt_i, hGe_i, hMul_r, hMul_l, hMod_i, hDiv_s, hBand_i, hShr_i, hPow_10_18, hPow_10_27, hPow_10_28, hPow_10_29, hPow_10_30, hEq_i, hNe_i, hLen_l, hLen_t, hMin2_i, hMax2_i, hMin3_i, hInt1_b, hInt1_i, hBits_i, hListOf_l, hListOf_t, hTupOf_l, hTupOf_t, gSeqS_def, gSet_def, gRet_def, gIfS_def, gNext_def, gTup_def, gLst_def, List.getElem?_cons_zero, List.getElem?_cons_succ, List.set_cons_zero, List.set_cons_succ, List.length_cons, List.length_nil, Nat.zero_add, Nat.reduceAdd, Nat.reduceLeDiff, Nat.reduceSub, Nat.reduceMul, if_true, if_false, Bool.false_eq_true, List.replicate_succ, List.replicate_zero, List.cons_append, List.nil_append, tgN, tgT, tgCons, tgNil, Int.reducePow, Int.reduceAdd, Int.reduceSub, Int.reduceMul, decide_true, decide_false, Bool.not_true, Bool.not_false, gChain_def, hIsa_int, hIsa_intb, hIsa_list, hIsa_tuple, gDrop_def, Nat.zero_le]
  rw [seq_nx e1]
  have e2 : gSet 4 (gOp hSub (gVar 0) (gOp hPow (gC (.int 10)) (gC (.int 18)))) [.int cell, .int n, .int B30, .list [], .none, .none, .none, .none] = .ok (.nx [.int cell, .int n, .int B30, .list [], .int (cell - 1000000000000000000), .none, .none, .none]) := by
    simp (disch := first | omega | decide) only [bnd_ok, gVar_def, gC_def, gOp_def, gUn_def, gNil_def, gCons_def, gIf_def, gTest_def, gNot_def, gAnd_def, gOr_def, gAndV_def, gOrV_def, gNotV_def, gCB_def, asB_b, hAdd_i, hSub_i, hLt_i, hLe_i, hGt_i, hGe_i, hMul_r, hMul_l, hMod_i, hDiv_s, hBand_i, hShr_i, hPow_10_18, hPow_10_27, hPow_10_28, hPow_10_29, hPow_10_30, hEq_i, hNe_i, hLen_l, hLen_t, hMin2_i, hMax2_i, hMin3_i, hInt1_b, hInt1_i, hBits_i, hListOf_l, hListOf_t, hTupOf_l, hTupOf_t, gSeqS_def, gSet_def, gRet_def, gIfS_def, gNext_def, gTup_def, gLst_def, List.getElem?_cons_zero, List.getElem?_cons_succ, List.set_cons_zero, List.set_cons_succ, List.length_cons, List.length_nil, Nat.zero_add, Nat.reduceAdd, Nat.reduceLeDiff, Nat.reduceSub, Nat.reduceMul, if_true, if_false, Bool.false_eq_true, List.replicate_succ, List.replicate_zero, List.cons_append, List.nil_append, tgN, tgT, tgCons, tgNil, Int.reducePow, Int.reduceAdd, Int.reduceSub, Int.reduceMul, decide_true, decide_false, Bool.not_true, Bool.not_false, gChain_def, hIsa_int, hIsa_intb, hIsa_list, hIsa_tuple, gDrop_def]
  rw [seq_nx e2]
  have e3 : gRng1 (gCons (gVar 1) gNil) [.int cell, .int n, .int B30, .list [], .int (cell - 1000000000000000000), .none, .none, .none] = .ok ((List.range n).map fun (k : Nat) => PyData.int (k : Int)) := by
    rw [← rangeD_nat]
    refine rng1_ok ?_ (by omega) (by omega)
    simp (disch := first | omega | decide) only [bnd_ok, gVar_def, gC_def, gOp_def, gUn_def, gNil_def, gCons_def, gIf_def, gTest_def, gNot_def, gAnd_def, gOr_def, gAndV_def, gOrV_def, gNotV_def, gCB_def, asB_b, hAdd_i, hSub_i, hLt_i, hLe_i, hGt_i, hGe_i, hMul_r, hMul_l, hMod_i, hDiv_s, hBand_i, hShr_i, hPow_10_18, hPow_10_27, hPow_10_28, hPow_10_29, hPow_10_30, hEq_i, hNe_i, hLen_l, hLen_t, hMin2_i, hMax2_i, hMin3_i, hInt1_b, hInt1_i, hBits_i, hListOf_l, hListOf_t, hTupOf_l, hTupOf_t, gSeqS_def, gSet_def, gRet_def, gIfS_def, gNext_def, gTup_def, gLst_def, List.getElem?_cons_zero, List.getElem?_cons_succ, List.set_cons_zero, List.set_cons_succ, List.length_cons, List.length_nil, Nat.zero_add, Nat.reduceAdd, Nat.reduceLeDiff, Nat.reduceSub, Nat.reduceMul, if_true, if_false, Bool.false_eq_true, List.replicate_succ, List.replicate_zero, List.cons_append, List.nil_append, tgN, tgT, tgCons, tgNil, Int.reducePow, Int.reduceAdd, Int.reduceSub, Int.reduceMul, decide_true, decide_false, Bool.not_true, Bool.not_false, gChain_def, hIsa_int, hIsa_intb, hIsa_list, hIsa_tuple, gDrop_def]
  exact (seq_nx (b := gRet (gVar 3)) (for_ok e3 hf)).trans rfl

/-! ### records -/
abbrev T3 := Int × Int × Int
def enc3 (t : T3) : Dt := .tuple [.int t.1, .int t.2.1, .int t.2.2]
structure TieOk (n : Int) (t : T3) : Prop where
  m0 : 0 ≤ t.1
  m1 : t.1 < B30
  a0 : 0 ≤ t.2.1
  ab : t.2.1 ≤ t.2.2
  bn : t.2.2 < n
structure RecOk (n : Int) (r : List T3) : Prop where
  len : r.length ≤ 60
  ties : ∀ t ∈ r, TieOk n t
  ord : r.Pairwise fun s t => s.1 < t.1
theorem ix_ok {ns : List Int} (hns : ∀ x ∈ ns, 0 ≤ x ∧ x < B30) {i : Int} (h0 : 0 ≤ i) (h1 : i < ns.length) : ∃ x, hIx (.list (ns.map .int)) (.int i) = .ok (.int x) ∧ 0 ≤ x ∧ x < B30 :=
  ⟨_, hIx_ints h0 h1, hns _ (List.getElem_mem _)⟩
theorem ix3 (a b c i : Int) (h0 : 0 ≤ i) (h1 : i < 3) : hIx (.list [.int a, .int b, .int c]) (.int i) = .ok (.int (if i = 0 then a else if i = 1 then b else c)) := by
  have : i = 0 ∨ i = 1 ∨ i = 2 := by omega
  rcases this with rfl | rfl | rfl <;> rfl
theorem map3_snoc (r : List T3) (t : T3) : r.map enc3 ++ [enc3 t] = (r ++ [t]).map enc3 := by rw [List.map_append]; rfl
def rB : Gs := (gSeqS (gAsg (gCallN 4 f_l_ends (gCons (gVar 2) (gCons (gOp hMod (gOp hIx (gVar 0) (gC (.int (3)))) (gC (.int (4)))) (gCons (gOp hIx (gVar 0) (gOp hAdd (gC (.int (4))) (gOp hMul (gC (.int (3))) (gVar 7)))) (gCons (gOp hIx (gVar 0) (gOp hAdd (gC (.int (5))) (gOp hMul (gC (.int (3))) (gVar 7)))) (gNil)))))) (tgT (tgCons (tgN 8) (tgCons (tgN 9) (tgNil))))) (gSeqS (gApp 6 (gTup (gCons (gVar 5) (gCons (gCB hMin2 (gCons (gVar 8) (gCons (gVar 9) (gNil)))) (gCons (gCB hMax2 (gCons (gVar 8) (gCons (gVar 9) (gNil)))) (gNil)))))) (gSet 5 (gOp hAdd (gOp hAdd (gVar 5) (gC (.int (1)))) (gOp hMod (gOp hIx (gVar 0) (gOp hAdd (gC (.int (6))) (gOp hMul (gC (.int (3))) (gVar 7)))) (gVar 4))))))
theorem rB_ok {ns : List Int} (hns : ∀ x ∈ ns, 0 ≤ x ∧ x < B30) (hl : 4 ≤ ns.length) {k : Nat} (hk : 3 * k + 6 < ns.length) {n : Int} (hn : 1 ≤ n) {wd m : Int} (hw : 0 < wd) (hm : 0 ≤ m) {r : List T3} (hr : r.length < 100) (mo : Dt) (c d8 d9 : Dt) :
    ∃ t m' q8 q9, rB [.list (ns.map .int), mo, .int n, c, .int wd, .int m, .list (r.map enc3), .int k, d8, d9] = .ok (.nx [.list (ns.map .int), mo, .int n, c, .int wd, .int m', .list ((r ++ [t]).map enc3), .int k, q8, q9])
      ∧ t.1 = m ∧ 0 ≤ t.2.1 ∧ t.2.1 ≤ t.2.2 ∧ t.2.2 < n ∧ m < m' ∧ m' ≤ m + wd := by
  obtain ⟨x3, e3, _⟩ := ix_ok hns (i := 3) (by omega) (by omega)
  obtain ⟨x4, e4, _⟩ := ix_ok hns (i := 4 + 3 * (k : Int)) (by omega) (by omega)
  obtain ⟨x5, e5, _⟩ := ix_ok hns (i := 5 + 3 * (k : Int)) (by omega) (by omega)
  obtain ⟨x6, e6, _⟩ := ix_ok hns (i := 6 + 3 * (k : Int)) (by omega) (by omega)
  obtain ⟨a, b, he, ha0, ha, hb0, hb⟩ := ends_ok n (x3 % 4) x4 x5 hn
  have w0 := Int.emod_nonneg x6 (show wd ≠ 0 by omega)
  have w1 := Int.emod_lt_of_pos x6 hw
  have c1 : gAsg (gCallN 4 f_l_ends (gCons (gVar 2) (gCons (gOp hMod (gOp hIx (gVar 0) (gC (.int (3)))) (gC (.int (4)))) (gCons (gOp hIx (gVar 0) (gOp hAdd (gC (.int (4))) (gOp hMul (gC (.int (3))) (gVar 7)))) (gCons (gOp hIx (gVar 0) (gOp hAdd (gC (.int (5))) (gOp hMul (gC (.int (3))) (gVar 7)))) (gNil)))))) (tgT (tgCons (tgN 8) (tgCons (tgN 9) (tgNil))))
      [.list (ns.map .int), mo, .int n, c, .int wd, .int m, .list (r.map enc3), .int k, d8, d9] = .ok (.nx [.list (ns.map .int), mo, .int n, c, .int wd, .int m, .list (r.map enc3), .int k, .int a, .int b]) := by
    refine asg_ok (callN_ok (ds := [.int n, .int (x3 % 4), .int x4, .int x5]) ?_ rfl he) ?_
    · simp (disch := omega) only [bnd_ok, gVar_def, gC_def, gOp_def, gUn_def, gNil_def, gCons_def, gIf_def, gTest_def, gNot_def, gAnd_def, gOr_def, gAndV_def, gOrV_def, gNotV_def, gCB_def, asB_b, hAdd_i, hSub_i, hLt_i, hLe_i, hGt_i, hGe_i, hMul_r, hMul_l, hMod_i, hDiv_s, hBand_i, hShr_i, hPow_10_18, hPow_10_27, hPow_10_28, hPow_10_29, hPow_10_30, hEq_i, hNe_i, hLen_l, hLen_t, hMin2_i, hMax2_i, hMin3_i, hInt1_b, hInt1_i, hBits_i, hListOf_l, hListOf_t, hTupOf_l, hTupOf_t, gSeqS_def, gSet_def, gRet_def, gIfS_def, gNext_def, gTup_def, gLst_def, List.getElem?_cons_zero, List.getElem?_cons_succ, List.set_cons_zero, List.set_cons_succ, List.length_cons, List.length_nil, Nat.zero_add, Nat.reduceAdd, Nat.reduceLeDiff, Nat.reduceSub, Nat.reduceMul, if_true, if_false, Bool.false_eq_true, List.replicate_succ, List.replicate_zero, List.cons_append, List.nil_append, tgN, tgT, tgCons, tgNil, Int.reducePow, Int.reduceAdd, Int.reduceSub, Int.reduceMul, decide_true, decide_false, Bool.not_true, Bool.not_false, gChain_def, hIsa_int, hIsa_intb, hIsa_list, hIsa_tuple, gDrop_def, e3, e4, e5]
    · simp only [bnd_ok, gVar_def, gC_def, gOp_def, gUn_def, gNil_def, gCons_def, gIf_def, gTest_def, gNot_def, gAnd_def, gOr_def, gAndV_def, gOrV_def, gNotV_def, gCB_def, asB_b, hAdd_i, hSub_i, hLt_i, hLe_i, hGt_i, hGe_i, hMul_r, hMul_l, hMod_i, hDiv_s, hBand_i, hShr_i, hPow_10_18, hPow_10_27, hPow_10_28, hPow_10_29, hPow_10_30, hEq_i, hNe_i, hLen_l, hLen_t, hMin2_i, hMax2_i, hMin3_i, hInt1_b, hInt1_i, hBits_i, hListOf_l, hListOf_t, hTupOf_l, hTupOf_t, gSeqS_def, gSet_def, gRet_def, gIfS_def, gNext_def, gTup_def, gLst_def, List.getElem?_cons_zero, List.getElem?_cons_succ, List.set_cons_zero, List.set_cons_succ, List.length_cons, List.length_nil, Nat.zero_add, Nat.reduceAdd, Nat.reduceLeDiff, Nat.reduceSub, Nat.reduceMul, if_true, if_false, Bool.false_eq_true, List.replicate_succ, List.replicate_zero, List.cons_append, List.nil_append, tgN, tgT, tgCons, tgNil, Int.reducePow, Int.reduceAdd, Int.reduceSub, Int.reduceMul, decide_true, decide_false, Bool.not_true, Bool.not_false, gChain_def, hIsa_int, hIsa_intb, hIsa_list, hIsa_tuple, gDrop_def]
  have c2 : gApp 6 (gTup (gCons (gVar 5) (gCons (gCB hMin2 (gCons (gVar 8) (gCons (gVar 9) (gNil)))) (gCons (gCB hMax2 (gCons (gVar 8) (gCons (gVar 9) (gNil)))) (gNil)))))
      [.list (ns.map .int), mo, .int n, c, .int wd, .int m, .list (r.map enc3), .int k, .int a, .int b] = .ok (.nx [.list (ns.map .int), mo, .int n, c, .int wd, .int m, .list ((r ++ [(m, (if b < a then b else a), (if b > a then b else a))]).map enc3), .int k, .int a, .int b]) := by
    refine (gApp_l (ds := r.map enc3) (d := enc3 (m, (if b < a then b else a), (if b > a then b else a))) rfl ?_ (by rw [List.length_map]; omega)).trans ?_
    · simp (disch := omega) only [bnd_ok, gVar_def, gC_def, gOp_def, gUn_def, gNil_def, gCons_def, gIf_def, gTest_def, gNot_def, gAnd_def, gOr_def, gAndV_def, gOrV_def, gNotV_def, gCB_def, asB_b, hAdd_i, hSub_i, hLt_i, hLe_i, hGt_i, hGe_i, hMul_r, hMul_l, hMod_i, hDiv_s, hBand_i, hShr_i, hPow_10_18, hPow_10_27, hPow_10_28, hPow_10_29, hPow_10_30, hEq_i, hNe_i, hLen_l, hLen_t, hMin2_i, hMax2_i, hMin3_i, hInt1_b, hInt1_i, hBits_i, hListOf_l, hListOf_t, hTupOf_l, hTupOf_t, gSeqS_def, gSet_def, gRet_def, gIfS_def, gNext_def, gTup_def, gLst_def, List.getElem?_cons_zero, List.getElem?_cons_succ, List.set_cons_zero, List.set_cons_succ, List.length_cons, List.length_nil, Nat.zero_add, Nat.reduceAdd, Nat.reduceLeDiff, Nat.reduceSub, Nat.reduceMul, if_true, if_false, Bool.false_eq_true, List.replicate_succ, List.replicate_zero, List.cons_append, List.nil_append, tgN, tgT, tgCons, tgNil, Int.reducePow, Int.reduceAdd, Int.reduceSub, Int.reduceMul, decide_true, decide_false, Bool.not_true, Bool.not_false, gChain_def, hIsa_int, hIsa_intb, hIsa_list, hIsa_tuple, gDrop_def]
      rfl
    · rw [map3_snoc]; rfl
  unfold rB
  rw [seq_nx c1, seq_nx c2]
  refine ⟨(m, (if b < a then b else a), (if b > a then b else a)), m + 1 + x6 % wd, .int a, .int b, ?_, rfl, ?_, ?_, ?_, by omega, by omega⟩
  · simp (disch := omega) only [bnd_ok, gVar_def, gC_def, gOp_def, gUn_def, gNil_def, gCons_def, gIf_def, gTest_def, gNot_def, gAnd_def, gOr_def, gAndV_def, gOrV_def, gNotV_def, gCB_def, asB_b, hAdd_i, hSub_i, hLt_i, hLe_i, hGt_i, hGe_i, hMul_r, hMul_l, hMod_i, hDiv_s, hBand_i, hShr_i, hPow_10_18, hPow_10_27, hPow_10_28, hPow_10_29, hPow_10_30, hEq_i, hNe_i, hLen_l, hLen_t, hMin2_i, hMax2_i, hMin3_i, hInt1_b, hInt1_i, hBits_i, hListOf_l, hListOf_t, hTupOf_l, hTupOf_t, gSeqS_def, gSet_def, gRet_def, gIfS_def, gNext_def, gTup_def, gLst_def, List.getElem?_cons_zero, List.getElem?_cons_succ, List.set_cons_zero, List.set_cons_succ, List.length_cons, List.length_nil, Nat.zero_add, Nat.reduceAdd, Nat.reduceLeDiff, Nat.reduceSub, Nat.reduceMul, if_true, if_false, Bool.false_eq_true, List.replicate_succ, List.replicate_zero, List.cons_append, List.nil_append, tgN, tgT, tgCons, tgNil, Int.reducePow, Int.reduceAdd, Int.reduceSub, Int.reduceMul, decide_true, decide_false, Bool.not_true, Bool.not_false, gChain_def, hIsa_int, hIsa_intb, hIsa_list, hIsa_tuple, gDrop_def, e6]
  · show 0 ≤ (if b < a then b else a)
    split <;> omega
  · show (if b < a then b else a) ≤ (if b > a then b else a)
    split <;> split <;> omega
  · show (if b > a then b else a) < n
    split <;> omega
theorem rec_snoc {n : Int} {r : List T3} {t : T3} (h : ∀ t ∈ r, TieOk n t) (o : r.Pairwise fun s t => s.1 < t.1) (ht : TieOk n t) (hlt : ∀ s ∈ r, s.1 < t.1) : (∀ s ∈ r ++ [t], TieOk n s) ∧ (r ++ [t]).Pairwise fun s t => s.1 < t.1 := by
  refine ⟨fun s hs => ?_, List.pairwise_append.mpr ⟨o, List.pairwise_singleton _ _, fun a ha b hb => ?_⟩⟩
  · rcases List.mem_append.mp hs with h' | h'
    · exact h s h'
    · rw [List.mem_singleton.mp h']; exact ht
  · rw [List.mem_singleton.mp hb]
    exact hlt a ha
theorem record_ok {ns : List Int} {most : Int} (hns : ∀ x ∈ ns, 0 ≤ x ∧ x < B30) (hl : 4 ≤ ns.length) (hl2 : ns.length ≤ 1000) (h0 : 0 ≤ most) (h1 : most ≤ 60) :
    ∃ n r, f_l_record [.list (ns.map .int), .int most] = .ok (.tuple [.int n, .list (r.map enc3)]) ∧ 1 ≤ n ∧ n ≤ 10 ∧ RecOk n r ∧ (r.length : Int) ≤ most := by
  obtain ⟨x0, e0, b0⟩ := ix_ok hns (i := 0) (by omega) (by omega)
  obtain ⟨x1, e1, b1⟩ := ix_ok hns (i := 1) (by omega) (by omega)
  obtain ⟨x2, e2, b2⟩ := ix_ok hns (i := 2) (by omega) (by omega)
  obtain ⟨x3, e3, b3⟩ := ix_ok hns (i := 3) (by omega) (by omega)
  suffices h : ∃ n r, g_l_record [.list (ns.map .int), .int most, .none, .none, .none, .none, .none, .none, .none, .none] = .ok (.rt (.tuple [.int n, .list (r.map enc3)])) ∧ 1 ≤ n ∧ n ≤ 10 ∧ RecOk n r ∧ (r.length : Int) ≤ most by
    obtain ⟨n, r, h, q⟩ := h
    exact ⟨n, r, fnN_rt h, q⟩
  unfold g_l_record
  -- n
  rw [seq_nx (ρ' := [.list (ns.map .int), .int most, .int (1 + x0 % 6), .none, .none, .none, .none, .none, .none, .none]) (by simp (disch := omega) only [bnd_ok, gVar_def, gC_def, gOp_def, gUn_def, gNil_def, gCons_def, gIf_def, gTest_def, gNot_def, gAnd_def, gOr_def, gAndV_def, gOrV_def, gNotV_def, gCB_def, asB_b, hAdd_i, hSub_i, hLt_i, hLe_i, hGt_i, hGe_i, hMul_r, hMul_l, hMod_i, hDiv_s, hBand_i, hShr_i, hPow_10_18, hPow_10_27, hPow_10_28, hPow_10_29, hPow_10_30, hEq_i, hNe_i, hLen_l, hLen_t, hMin2_i, hMax2_i, hMin3_i, hInt1_b, hInt1_i, hBits_i, hListOf_l, hListOf_t, hTupOf_l, hTupOf_t, gSeqS_def, gSet_def, gRet_def, gIfS_def, gNext_def, gTup_def, gLst_def, List.getElem?_cons_zero, List.getElem?_cons_succ, List.set_cons_zero, List.set_cons_succ, List.length_cons, List.length_nil, Nat.zero_add, Nat.reduceAdd, Nat.reduceLeDiff, Nat.reduceSub, Nat.reduceMul, if_true, if_false, Bool.false_eq_true, List.replicate_succ, List.replicate_zero, List.cons_append, List.nil_append, tgN, tgT, tgCons, tgNil, Int.reducePow, Int.reduceAdd, Int.reduceSub, Int.reduceMul, decide_true, decide_false, Bool.not_true, Bool.not_false, gChain_def, hIsa_int, hIsa_intb, hIsa_list, hIsa_tuple, gDrop_def, e0])]
  obtain ⟨n, hn, n1, n10⟩ : ∃ n, gIfS (gTest (gOp hEq (gOp hMod (gOp hDiv (gOp hIx (gVar 0) (gC (.int (0)))) (gC (.int (6)))) (gC (.int (8)))) (gC (.int (1))))) (gSet 2 (gOp hAdd (gC (.int (7))) (gOp hMod (gOp hDiv (gOp hIx (gVar 0) (gC (.int (0)))) (gC (.int (48)))) (gC (.int (4)))))) gNext
      [.list (ns.map .int), .int most, .int (1 + x0 % 6), .none, .none, .none, .none, .none, .none, .none] = .ok (.nx [.list (ns.map .int), .int most, .int n, .none, .none, .none, .none, .none, .none, .none]) ∧ 1 ≤ n ∧ n ≤ 10 := by
    by_cases c : x0 / 6 % 8 = 1
    · exact ⟨7 + x0 / 48 % 4, by simp (disch := omega) only [bnd_ok, gVar_def, gC_def, gOp_def, gUn_def, gNil_def, gCons_def, gIf_def, gTest_def, gNot_def, gAnd_def, gOr_def, gAndV_def, gOrV_def, gNotV_def, gCB_def, asB_b, hAdd_i, hSub_i, hLt_i, hLe_i, hGt_i, hGe_i, hMul_r, hMul_l, hMod_i, hDiv_s, hBand_i, hShr_i, hPow_10_18, hPow_10_27, hPow_10_28, hPow_10_29, hPow_10_30, hEq_i, hNe_i, hLen_l, hLen_t, hMin2_i, hMax2_i, hMin3_i, hInt1_b, hInt1_i, hBits_i, hListOf_l, hListOf_t, hTupOf_l, hTupOf_t, gSeqS_def, gSet_def, gRet_def, gIfS_def, gNext_def, gTup_def, gLst_def, List.getElem?_cons_zero, List.getElem?_cons_succ, List.set_cons_zero, List.set_cons_succ, List.length_cons, List.length_nil, Nat.zero_add, Nat.reduceAdd, Nat.reduceLeDiff, Nat.reduceSub, Nat.reduceMul, if_true, if_false, Bool.false_eq_true, List.replicate_succ, List.replicate_zero, List.cons_append, List.nil_append, tgN, tgT, tgCons, tgNil, Int.reducePow, Int.reduceAdd, Int.reduceSub, Int.reduceMul, decide_true, decide_false, Bool.not_true, Bool.not_false, gChain_def, hIsa_int, hIsa_intb, hIsa_list, hIsa_tuple, gDrop_def, e0, c, beq_self_eq_true], by omega, by omega⟩
    · have c' : (x0 / 6 % 8 == 1) = false := beq_eq_false_iff_ne.mpr c
      exact ⟨1 + x0 % 6, by simp (disch := omega) only [bnd_ok, gVar_def, gC_def, gOp_def, gUn_def, gNil_def, gCons_def, gIf_def, gTest_def, gNot_def, gAnd_def, gOr_def, gAndV_def, gOrV_def, gNotV_def, gCB_def, asB_b, hAdd_i, hSub_i, hLt_i, hLe_i, hGt_i, hGe_i, hMul_r, hMul_l, hMod_i, hDiv_s, hBand_i, hShr_i, hPow_10_18, hPow_10_27, hPow_10_28, hPow_10_29, hPow_10_30, hEq_i, hNe_i, hLen_l, hLen_t, hMin2_i, hMax2_i, hMin3_i, hInt1_b, hInt1_i, hBits_i, hListOf_l, hListOf_t, hTupOf_l, hTupOf_t, gSeqS_def, gSet_def, gRet_def, gIfS_def, gNext_def, gTup_def, gLst_def, List.getElem?_cons_zero, List.getElem?_cons_succ, List.set_cons_zero, List.set_cons_succ, List.length_cons, List.length_nil, Nat.zero_add, Nat.reduceAdd, Nat.reduceLeDiff, Nat.reduceSub, Nat.reduceMul, if_true, if_false, Bool.false_eq_true, List.replicate_succ, List.replicate_zero, List.cons_append, List.nil_append, tgN, tgT, tgCons, tgNil, Int.reducePow, Int.reduceAdd, Int.reduceSub, Int.reduceMul, decide_true, decide_false, Bool.not_true, Bool.not_false, gChain_def, hIsa_int, hIsa_intb, hIsa_list, hIsa_tuple, gDrop_def, e0, c'], by omega, by omega⟩
  rw [seq_nx hn]
  -- many
  rw [seq_nx (ρ' := [.list (ns.map .int), .int most, .int n, .int (x1 % 13), .none, .none, .none, .none, .none, .none]) (by simp (disch := omega) only [bnd_ok, gVar_def, gC_def, gOp_def, gUn_def, gNil_def, gCons_def, gIf_def, gTest_def, gNot_def, gAnd_def, gOr_def, gAndV_def, gOrV_def, gNotV_def, gCB_def, asB_b, hAdd_i, hSub_i, hLt_i, hLe_i, hGt_i, hGe_i, hMul_r, hMul_l, hMod_i, hDiv_s, hBand_i, hShr_i, hPow_10_18, hPow_10_27, hPow_10_28, hPow_10_29, hPow_10_30, hEq_i, hNe_i, hLen_l, hLen_t, hMin2_i, hMax2_i, hMin3_i, hInt1_b, hInt1_i, hBits_i, hListOf_l, hListOf_t, hTupOf_l, hTupOf_t, gSeqS_def, gSet_def, gRet_def, gIfS_def, gNext_def, gTup_def, gLst_def, List.getElem?_cons_zero, List.getElem?_cons_succ, List.set_cons_zero, List.set_cons_succ, List.length_cons, List.length_nil, Nat.zero_add, Nat.reduceAdd, Nat.reduceLeDiff, Nat.reduceSub, Nat.reduceMul, if_true, if_false, Bool.false_eq_true, List.replicate_succ, List.replicate_zero, List.cons_append, List.nil_append, tgN, tgT, tgCons, tgNil, Int.reducePow, Int.reduceAdd, Int.reduceSub, Int.reduceMul, decide_true, decide_false, Bool.not_true, Bool.not_false, gChain_def, hIsa_int, hIsa_intb, hIsa_list, hIsa_tuple, gDrop_def, e1])]
  obtain ⟨many, hm, m0, m60⟩ : ∃ n', gIfS (gTest (gOp hEq (gOp hMod (gOp hDiv (gOp hIx (gVar 0) (gC (.int (1)))) (gC (.int (13)))) (gC (.int (8)))) (gC (.int (1))))) (gSet 3 (gOp hAdd (gC (.int (13))) (gOp hMod (gOp hDiv (gOp hIx (gVar 0) (gC (.int (1)))) (gC (.int (104)))) (gC (.int (48)))))) gNext
      [.list (ns.map .int), .int most, .int n, .int (x1 % 13), .none, .none, .none, .none, .none, .none] = .ok (.nx [.list (ns.map .int), .int most, .int n, .int n', .none, .none, .none, .none, .none, .none]) ∧ 0 ≤ n' ∧ n' ≤ 60 := by
    by_cases c : x1 / 13 % 8 = 1
    · exact ⟨13 + x1 / 104 % 48, by simp (disch := omega) only [bnd_ok, gVar_def, gC_def, gOp_def, gUn_def, gNil_def, gCons_def, gIf_def, gTest_def, gNot_def, gAnd_def, gOr_def, gAndV_def, gOrV_def, gNotV_def, gCB_def, asB_b, hAdd_i, hSub_i, hLt_i, hLe_i, hGt_i, hGe_i, hMul_r, hMul_l, hMod_i, hDiv_s, hBand_i, hShr_i, hPow_10_18, hPow_10_27, hPow_10_28, hPow_10_29, hPow_10_30, hEq_i, hNe_i, hLen_l, hLen_t, hMin2_i, hMax2_i, hMin3_i, hInt1_b, hInt1_i, hBits_i, hListOf_l, hListOf_t, hTupOf_l, hTupOf_t, gSeqS_def, gSet_def, gRet_def, gIfS_def, gNext_def, gTup_def, gLst_def, List.getElem?_cons_zero, List.getElem?_cons_succ, List.set_cons_zero, List.set_cons_succ, List.length_cons, List.length_nil, Nat.zero_add, Nat.reduceAdd, Nat.reduceLeDiff, Nat.reduceSub, Nat.reduceMul, if_true, if_false, Bool.false_eq_true, List.replicate_succ, List.replicate_zero, List.cons_append, List.nil_append, tgN, tgT, tgCons, tgNil, Int.reducePow, Int.reduceAdd, Int.reduceSub, Int.reduceMul, decide_true, decide_false, Bool.not_true, Bool.not_false, gChain_def, hIsa_int, hIsa_intb, hIsa_list, hIsa_tuple, gDrop_def, e1, c, beq_self_eq_true], by omega, by omega⟩
    · have c' : (x1 / 13 % 8 == 1) = false := beq_eq_false_iff_ne.mpr c
      exact ⟨x1 % 13, by simp (disch := omega) only [bnd_ok, gVar_def, gC_def, gOp_def, gUn_def, gNil_def, gCons_def, gIf_def, gTest_def, gNot_def, gAnd_def, gOr_def, gAndV_def, gOrV_def, gNotV_def, gCB_def, asB_b, hAdd_i, hSub_i, hLt_i, hLe_i, hGt_i, hGe_i, hMul_r, hMul_l, hMod_i, hDiv_s, hBand_i, hShr_i, hPow_10_18, hPow_10_27, hPow_10_28, hPow_10_29, hPow_10_30, hEq_i, hNe_i, hLen_l, hLen_t, hMin2_i, hMax2_i, hMin3_i, hInt1_b, hInt1_i, hBits_i, hListOf_l, hListOf_t, hTupOf_l, hTupOf_t, gSeqS_def, gSet_def, gRet_def, gIfS_def, gNext_def, gTup_def, gLst_def, List.getElem?_cons_zero, List.getElem?_cons_succ, List.set_cons_zero, List.set_cons_succ, List.length_cons, List.length_nil, Nat.zero_add, Nat.reduceAdd, Nat.reduceLeDiff, Nat.reduceSub, Nat.reduceMul, if_true, if_false, Bool.false_eq_true, List.replicate_succ, List.replicate_zero, List.cons_append, List.nil_append, tgN, tgT, tgCons, tgNil, Int.reducePow, Int.reduceAdd, Int.reduceSub, Int.reduceMul, decide_true, decide_false, Bool.not_true, Bool.not_false, gChain_def, hIsa_int, hIsa_intb, hIsa_list, hIsa_tuple, gDrop_def, e1, c'], by omega, by omega⟩
  rw [seq_nx hm]
  -- wide, moment
  obtain ⟨wd, hw, w0, w1⟩ : ∃ wd, gSet 4 (gOp hIx (gLst (gCons (gC (.int (1))) (gCons (gC (.int (4))) (gCons (gOp hPow (gC (.int (10))) (gC (.int (28)))) (gNil))))) (gOp hMod (gOp hIx (gVar 0) (gC (.int (2)))) (gC (.int (3)))))
      [.list (ns.map .int), .int most, .int n, .int many, .none, .none, .none, .none, .none, .none] = .ok (.nx [.list (ns.map .int), .int most, .int n, .int many, .int wd, .none, .none, .none, .none, .none]) ∧ 0 < wd ∧ wd ≤ 10000000000000000000000000000 := by
    refine ⟨if x2 % 3 = 0 then 1 else if x2 % 3 = 1 then 4 else 10000000000000000000000000000, by simp (disch := omega) only [bnd_ok, gVar_def, gC_def, gOp_def, gUn_def, gNil_def, gCons_def, gIf_def, gTest_def, gNot_def, gAnd_def, gOr_def, gAndV_def, gOrV_def, gNotV_def, gCB_def, asB_b, hAdd_i, hSub_i, hLt_i, hLe_i, hGt_i, hGe_i, hMul_r, hMul_l, hMod_i, hDiv_s, hBand_i, hShr_i, hPow_10_18, hPow_10_27, hPow_10_28, hPow_10_29, hPow_10_30, hEq_i, hNe_i, hLen_l, hLen_t, hMin2_i, hMax2_i, hMin3_i, hInt1_b, hInt1_i, hBits_i, hListOf_l, hListOf_t, hTupOf_l, hTupOf_t, gSeqS_def, gSet_def, gRet_def, gIfS_def, gNext_def, gTup_def, gLst_def, List.getElem?_cons_zero, List.getElem?_cons_succ, List.set_cons_zero, List.set_cons_succ, List.length_cons, List.length_nil, Nat.zero_add, Nat.reduceAdd, Nat.reduceLeDiff, Nat.reduceSub, Nat.reduceMul, if_true, if_false, Bool.false_eq_true, List.replicate_succ, List.replicate_zero, List.cons_append, List.nil_append, tgN, tgT, tgCons, tgNil, Int.reducePow, Int.reduceAdd, Int.reduceSub, Int.reduceMul, decide_true, decide_false, Bool.not_true, Bool.not_false, gChain_def, hIsa_int, hIsa_intb, hIsa_list, hIsa_tuple, gDrop_def, e2, ix3], ?_, ?_⟩
    · split <;> (try split) <;> omega
    · split <;> (try split) <;> omega
  rw [seq_nx hw]
  obtain ⟨mo, hmo, mo0, mo1⟩ : ∃ mo, gSet 5 (gOp hIx (gLst (gCons (gC (.int (0))) (gCons (gOp hMod (gOp hDiv (gOp hIx (gVar 0) (gC (.int (2)))) (gC (.int (12)))) (gC (.int (100)))) (gCons (gOp hMod (gOp hIx (gVar 0) (gC (.int (3)))) (gOp hPow (gC (.int (10))) (gC (.int (29))))) (gNil))))) (gOp hMod (gOp hDiv (gOp hIx (gVar 0) (gC (.int (2)))) (gC (.int (3)))) (gC (.int (3)))))
      [.list (ns.map .int), .int most, .int n, .int many, .int wd, .none, .none, .none, .none, .none] = .ok (.nx [.list (ns.map .int), .int most, .int n, .int many, .int wd, .int mo, .none, .none, .none, .none]) ∧ 0 ≤ mo ∧ mo ≤ 100000000000000000000000000000 := by
    refine ⟨if x2 / 3 % 3 = 0 then 0 else if x2 / 3 % 3 = 1 then x2 / 12 % 100 else x3 % 100000000000000000000000000000, by simp (disch := omega) only [bnd_ok, gVar_def, gC_def, gOp_def, gUn_def, gNil_def, gCons_def, gIf_def, gTest_def, gNot_def, gAnd_def, gOr_def, gAndV_def, gOrV_def, gNotV_def, gCB_def, asB_b, hAdd_i, hSub_i, hLt_i, hLe_i, hGt_i, hGe_i, hMul_r, hMul_l, hMod_i, hDiv_s, hBand_i, hShr_i, hPow_10_18, hPow_10_27, hPow_10_28, hPow_10_29, hPow_10_30, hEq_i, hNe_i, hLen_l, hLen_t, hMin2_i, hMax2_i, hMin3_i, hInt1_b, hInt1_i, hBits_i, hListOf_l, hListOf_t, hTupOf_l, hTupOf_t, gSeqS_def, gSet_def, gRet_def, gIfS_def, gNext_def, gTup_def, gLst_def, List.getElem?_cons_zero, List.getElem?_cons_succ, List.set_cons_zero, List.set_cons_succ, List.length_cons, List.length_nil, Nat.zero_add, Nat.reduceAdd, Nat.reduceLeDiff, Nat.reduceSub, Nat.reduceMul, if_true, if_false, Bool.false_eq_true, List.replicate_succ, List.replicate_zero, List.cons_append, List.nil_append, tgN, tgT, tgCons, tgNil, Int.reducePow, Int.reduceAdd, Int.reduceSub, Int.reduceMul, decide_true, decide_false, Bool.not_true, Bool.not_false, gChain_def, hIsa_int, hIsa_intb, hIsa_list, hIsa_tuple, gDrop_def, e2, e3, ix3], ?_, ?_⟩
    · split <;> (try split) <;> omega
    · split <;> (try split) <;> omega
  rw [seq_nx hmo]
  rw [seq_nx (ρ' := [.list (ns.map .int), .int most, .int n, .int many, .int wd, .int mo, .list [], .none, .none, .none]) (by simp (disch := omega) only [bnd_ok, gVar_def, gC_def, gOp_def, gUn_def, gNil_def, gCons_def, gIf_def, gTest_def, gNot_def, gAnd_def, gOr_def, gAndV_def, gOrV_def, gNotV_def, gCB_def, asB_b, hAdd_i, hSub_i, hLt_i, hLe_i, hGt_i, hGe_i, hMul_r, hMul_l, hMod_i, hDiv_s, hBand_i, hShr_i, hPow_10_18, hPow_10_27, hPow_10_28, hPow_10_29, hPow_10_30, hEq_i, hNe_i, hLen_l, hLen_t, hMin2_i, hMax2_i, hMin3_i, hInt1_b, hInt1_i, hBits_i, hListOf_l, hListOf_t, hTupOf_l, hTupOf_t, gSeqS_def, gSet_def, gRet_def, gIfS_def, gNext_def, gTup_def, gLst_def, List.getElem?_cons_zero, List.getElem?_cons_succ, List.set_cons_zero, List.set_cons_succ, List.length_cons, List.length_nil, Nat.zero_add, Nat.reduceAdd, Nat.reduceLeDiff, Nat.reduceSub, Nat.reduceMul, if_true, if_false, Bool.false_eq_true, List.replicate_succ, List.replicate_zero, List.cons_append, List.nil_append, tgN, tgT, tgCons, tgNil, Int.reducePow, Int.reduceAdd, Int.reduceSub, Int.reduceMul, decide_true, decide_false, Bool.not_true, Bool.not_false, gChain_def, hIsa_int, hIsa_intb, hIsa_list, hIsa_tuple, gDrop_def, Nat.zero_le])]
  -- the loop
  obtain ⟨cnt, hc, c0, c1, c2⟩ : ∃ cnt : Nat, gRng1 (gCons (gCB hMin3 (gCons (gVar 3) (gCons (gVar 1) (gCons (gOp hDiv (gOp hSub (gCB hLen (gCons (gVar 0) (gNil))) (gC (.int (4)))) (gC (.int (3)))) (gNil))))) (gNil))
      [.list (ns.map .int), .int most, .int n, .int many, .int wd, .int mo, .list [], .none, .none, .none] = .ok ((List.range cnt).map fun (k : Nat) => PyData.int (k : Int)) ∧ (cnt : Int) ≤ most ∧ cnt ≤ 60 ∧ 3 * cnt + 4 ≤ ns.length := by
    generalize hq : (if most < many then (if ((ns.length : Int) - 4) / 3 < most then ((ns.length : Int) - 4) / 3 else most) else (if ((ns.length : Int) - 4) / 3 < many then ((ns.length : Int) - 4) / 3 else many)) = q
    have q0 : 0 ≤ q ∧ q ≤ most ∧ q ≤ 60 ∧ 3 * q + 4 ≤ ns.length := by
      split at hq <;> split at hq <;> omega
    refine ⟨q.toNat, ?_, by omega, by omega, by omega⟩
    rw [← rangeD_nat, show ((q.toNat : Nat) : Int) = q by omega]
    refine rng1_ok ?_ (by omega) (by omega)
    simp (disch := omega) only [bnd_ok, gVar_def, gC_def, gOp_def, gUn_def, gNil_def, gCons_def, gIf_def, gTest_def, gNot_def, gAnd_def, gOr_def, gAndV_def, gOrV_def, gNotV_def, gCB_def, asB_b, hAdd_i, hSub_i, hLt_i, hLe_i, hGt_i, hGe_i, hMul_r, hMul_l, hMod_i, hDiv_s, hBand_i, hShr_i, hPow_10_18, hPow_10_27, hPow_10_28, hPow_10_29, hPow_10_30, hEq_i, hNe_i, hLen_l, hLen_t, hMin2_i, hMax2_i, hMin3_i, hInt1_b, hInt1_i, hBits_i, hListOf_l, hListOf_t, hTupOf_l, hTupOf_t, gSeqS_def, gSet_def, gRet_def, gIfS_def, gNext_def, gTup_def, gLst_def, List.getElem?_cons_zero, List.getElem?_cons_succ, List.set_cons_zero, List.set_cons_succ, List.length_cons, List.length_nil, Nat.zero_add, Nat.reduceAdd, Nat.reduceLeDiff, Nat.reduceSub, Nat.reduceMul, if_true, if_false, Bool.false_eq_true, List.replicate_succ, List.replicate_zero, List.cons_append, List.nil_append, tgN, tgT, tgCons, tgNil, Int.reducePow, Int.reduceAdd, Int.reduceSub, Int.reduceMul, decide_true, decide_false, Bool.not_true, Bool.not_false, gChain_def, hIsa_int, hIsa_intb, hIsa_list, hIsa_tuple, gDrop_def, List.length_map, hq]
  obtain ⟨ρ', hf, r, m', d7, d8, d9, rfl, hl', hm', hm2, ht, ho, hlt⟩ := forE_ix (fun (k : Nat) => PyData.int (k : Int)) (h := tgN 7) (b := rB) (List.range cnt)
    (fun i ρ => ∃ (r : List T3) (m : Int) (d7 d8 d9 : Dt), ρ = [.list (ns.map .int), .int most, .int n, .int many, .int wd, .int m, .list (r.map enc3), d7, d8, d9] ∧ r.length = i ∧ 0 ≤ m ∧ m ≤ 100000000000000000000000000000 + i * 10000000000000000000000000000 ∧ (∀ t ∈ r, TieOk n t) ∧ (r.Pairwise fun s t => s.1 < t.1) ∧ ∀ t ∈ r, t.1 < m)
    (ρ := [.list (ns.map .int), .int most, .int n, .int many, .int wd, .int mo, .list [], .none, .none, .none]) ⟨[], mo, _, _, _, rfl, rfl, mo0, by omega, by simp, .nil, by simp⟩ (by
      rintro i ρ hi ⟨r, m, d7, d8, d9, rfl, hl', hm', hm2, ht, ho, hlt⟩
      rw [List.getElem_range]
      rw [List.length_range] at hi
      obtain ⟨t, m2, e8, e9, hB, t1, t2, t3, t4, t5, t6⟩ := rB_ok hns hl (k := i) (by omega) n1 w0 hm' (r := r) (by omega) (.int most) (.int many) d8 d9
      have tok : TieOk n t := ⟨by omega, by unfold B30; omega, t2, t3, t4⟩
      obtain ⟨s1, s2⟩ := rec_snoc ht ho tok (fun s hs => by rw [t1]; exact hlt s hs)
      refine ⟨_, _, rfl, .inl hB, r ++ [t], m2, _, _, _, rfl, by rw [List.length_append, hl']; rfl, by omega, by omega, s1, s2, fun s hs => ?_⟩
      rcases List.mem_append.mp hs with h | h
      · have := hlt s h; omega
      · rw [List.mem_singleton.mp h]; omega)
  rw [List.length_range] at hl'
  refine ⟨n, r, (seq_nx (b := gRet (gTup (gCons (gVar 2) (gCons (gVar 6) gNil)))) (for_ok hc hf)).trans ?_, n1, n10, ⟨by omega, ht, ho⟩, by omega⟩
  simp only [bnd_ok, gVar_def, gC_def, gOp_def, gUn_def, gNil_def, gCons_def, gIf_def, gTest_def, gNot_def, gAnd_def, gOr_def, gAndV_def, gOrV_def, gNotV_def, gCB_def, asB_b, hAdd_i, hSub_i, hLt_i, hLe_i, hGt_i, hGe_i, hMul_r, hMul_l, hMod_i, hDiv_s, hBand_i, hShr_i, hPow_10_18, hPow_10_27, hPow_10_28, hPow_10_29, hPow_10_30, hEq_i, hNe_i, hLen_l, hLen_t, hMin2_i, hMax2_i, hMin3_i, hInt1_b, hInt1_i, hBits_i, hListOf_l, hListOf_t, hTupOf_l, hTupOf_t, gSeqS_def, gSet_def, gRet_def, gIfS_def, gNext_def, gTup_def, gLst_def, List.getElem?_cons_zero, List.getElem?_cons_succ, List.set_cons_zero, List.set_cons_succ, List.length_cons, List.length_nil, Nat.zero_add, Nat.reduceAdd, Nat.reduceLeDiff, Nat.reduceSub, Nat.reduceMul, if_true, if_false, Bool.false_eq_true, List.replicate_succ, List.replicate_zero, List.cons_append, List.nil_append, tgN, tgT, tgCons, tgNil, Int.reducePow, Int.reduceAdd, Int.reduceSub, Int.reduceMul, decide_true, decide_false, Bool.not_true, Bool.not_false, gChain_def, hIsa_int, hIsa_intb, hIsa_list, hIsa_tuple, gDrop_def]
end FamA
end T_FamAP

section T_HeavM
set_option linter.all false
set_option maxRecDepth 100000
/-! HeavM: orders of the places of a heavy web; what lies over a side's rim. Plain. -/
namespace Heav
open PySem Sim FamA

/-! ### sums over items (early, late, weight) -/
abbrev It := Nat × Nat × Int
def sw (E : List It) (p : It → Bool) : Int := (E.map fun e => if p e then e.2.2 else 0).sum
theorem sw_nil (p : It → Bool) : sw [] p = 0 := rfl
theorem sw_cons (e : It) (E : List It) (p : It → Bool) : sw (e :: E) p = (if p e then e.2.2 else 0) + sw E p := rfl
theorem sw_two {E : List It} {p q r : It → Bool} (h : ∀ e ∈ E, 0 ≤ e.2.2) (h1 : ∀ e ∈ E, p e = true → r e = true) (h2 : ∀ e ∈ E, q e = true → r e = true) (h3 : ∀ e ∈ E, p e = true → q e = false) : sw E p + sw E q ≤ sw E r := by
  induction E with
  | nil => simp [sw_nil]
  | cons e E ih =>
    have ih := ih (fun x hx => h x (List.mem_cons_of_mem _ hx)) (fun x hx => h1 x (List.mem_cons_of_mem _ hx)) (fun x hx => h2 x (List.mem_cons_of_mem _ hx)) (fun x hx => h3 x (List.mem_cons_of_mem _ hx))
    have a0 := h e List.mem_cons_self
    have a1 := h1 e List.mem_cons_self
    have a2 := h2 e List.mem_cons_self
    have a3 := h3 e List.mem_cons_self
    rw [sw_cons, sw_cons, sw_cons]
    cases hp : p e <;> cases hq : q e <;> cases hr : r e <;> simp_all <;> omega
theorem sw_le {E : List It} {p r : It → Bool} (h : ∀ e ∈ E, 0 ≤ e.2.2) (h1 : ∀ e ∈ E, p e = true → r e = true) : sw E p ≤ sw E r := by
  have := sw_two (q := fun _ => false) h h1 (fun _ _ z => nomatch z) fun _ _ _ => rfl
  have e : sw E (fun _ => false) = 0 := by
    unfold sw
    clear this h h1
    induction E with
    | nil => rfl
    | cons e E ih => rw [List.map_cons, List.sum_cons, ih]; rfl
  omega
/-- what lies over a rim, of what stands no later than i -/
def crs (P : Nat → Bool) (i : Nat) : It → Bool := fun e => (P e.1 != P e.2.1) && decide (e.2.1 ≤ i)
def lateB (i j : Nat) : It → Bool := fun e => decide (e.2.1 = i) && decide (j ≤ e.1)
/-- the law of orders: of an active place, what stands over the rim no later than it comes to what it has ahead -/
theorem active {E : List It} {P : Nat → Bool} {R : Nat → Nat → Int} (h0 : ∀ e ∈ E, 0 ≤ e.2.2) (hlt : ∀ e ∈ E, e.1 < e.2.1)
    (H1 : ∀ i j, j ≤ i → sw E (lateB i j) = R i i - R j i) (H2 : ∀ i j, j ≤ i → R j i ≤ R j j) (H0 : R 0 0 ≤ 0) :
    ∀ i, ∃ j, j ≤ i ∧ R j j ≤ sw E (crs P j) ∧ ∀ l, j ≤ l → l ≤ i → P l = P i
  | 0 => ⟨0, Nat.le_refl _, by
      have : sw E (fun _ => false) ≤ sw E (crs P 0) := sw_le h0 fun _ _ z => nomatch z
      have e : sw E (fun _ => false) = 0 := by
        unfold sw
        clear this h0 hlt H1 H2
        induction E with
        | nil => rfl
        | cons e E ih => rw [List.map_cons, List.sum_cons, ih]; rfl
      omega, fun l h1 h2 => by rw [show l = 0 by omega]⟩
  | i + 1 => by
    obtain ⟨j, ji, hj, hc⟩ := active h0 hlt H1 H2 H0 i
    by_cases c : P (i + 1) = P i
    · exact ⟨j, by omega, hj, fun l h1 h2 => by
        by_cases cl : l = i + 1
        · rw [cl]
        · rw [hc l h1 (by omega), c]⟩
    · refine ⟨i + 1, Nat.le_refl _, ?_, fun l h1 h2 => by rw [show l = i + 1 by omega]⟩
      have e1 := H1 (i + 1) j (by omega)
      have e2 := H2 (i + 1) j (by omega)
      have := sw_two (E := E) (p := crs P j) (q := lateB (i + 1) j) (r := crs P (i + 1)) h0 (fun e he h => by
        unfold crs at *
        rw [Bool.and_eq_true, decide_eq_true_eq] at *
        exact ⟨h.1, by omega⟩) (fun e he h => by
        unfold lateB at h
        unfold crs
        rw [Bool.and_eq_true, decide_eq_true_eq, decide_eq_true_eq] at h
        rw [Bool.and_eq_true, decide_eq_true_eq]
        have hl := hlt e he
        refine ⟨?_, by omega⟩
        rw [h.1, hc e.1 h.2 (by omega), bne_iff_ne]
        exact fun z => c z.symm) (fun e he h => by
        unfold crs at h
        unfold lateB
        rw [Bool.and_eq_true, decide_eq_true_eq] at h
        have : decide (e.2.1 = i + 1) = false := decide_eq_false (by omega)
        rw [this]
        rfl)
      omega
theorem active_at {E : List It} {P : Nat → Bool} {R : Nat → Nat → Int} (h0 : ∀ e ∈ E, 0 ≤ e.2.2) (hlt : ∀ e ∈ E, e.1 < e.2.1)
    (H1 : ∀ i j, j ≤ i → sw E (lateB i j) = R i i - R j i) (H2 : ∀ i j, j ≤ i → R j i ≤ R j j) (H0 : R 0 0 ≤ 0) {i : Nat} (h : P i ≠ P (i + 1)) : R (i + 1) (i + 1) ≤ sw E (crs P (i + 1)) := by
  obtain ⟨j, ji, hj, hc⟩ := active (P := P) h0 hlt H1 H2 H0 (i + 1)
  by_cases c : j = i + 1
  · rw [← c]
    exact hj
  · exact absurd (hc i (by omega) (by omega)) h

/-! ### a web and an order -/
/-- what the ties between some places and one weigh -/
def wt (hv : List T3) (A : List Int) (q : Int) : Int := (hv.map fun t => (if t.1 ∈ A ∧ t.2.1 = q then t.2.2 else 0) + (if t.2.1 ∈ A ∧ t.1 = q then t.2.2 else 0)).sum
def cw (hv : List T3) (s : Int → Bool) : Int := (hv.map fun t => if s t.1 != s t.2.1 then t.2.2 else 0).sum
structure Web (n : Int) (hv : List T3) : Prop where
  ok : ∀ t ∈ hv, 0 ≤ t.1 ∧ t.1 < t.2.1 ∧ t.2.1 < n ∧ 0 ≤ t.2.2
/-- each place but the first is one of those that have most ahead -/
def MA (n : Int) (hv : List T3) (F : List Int) : Prop := ∀ i (h : i < F.length), 0 < i → ∀ q, 0 ≤ q → q < n → q ∉ F.take i → wt hv (F.take i) q ≤ wt hv (F.take i) F[i]
def item (F : List Int) (t : T3) : It := (min (F.idxOf t.1) (F.idxOf t.2.1), max (F.idxOf t.1) (F.idxOf t.2.1), t.2.2)
theorem idx_get {F : List Int} {a : Int} (h : a ∈ F) : F.idxOf a < F.length := List.idxOf_lt_length_of_mem h
theorem get_idx : ∀ {F : List Int} {a : Int} (h : F.idxOf a < F.length), F[F.idxOf a] = a := fun {F a} h => List.getElem_idxOf h
theorem idx_inj {F : List Int} {a b : Int} (ha : a ∈ F) (hb : b ∈ F) (e : F.idxOf a = F.idxOf b) : a = b := by
  have h1 := get_idx (idx_get ha)
  have h2 := get_idx (idx_get hb)
  have : F[F.idxOf a]'(idx_get ha) = F[F.idxOf b]'(idx_get hb) := by congr 1
  rw [h1, h2] at this
  exact this
theorem idx_of_get {F : List Int} (hn : F.Nodup) {i : Nat} (h : i < F.length) : F.idxOf F[i] = i := by
  have hm : F[i] ∈ F := List.getElem_mem h
  have h1 := get_idx (idx_get hm)
  rcases Nat.lt_trichotomy (F.idxOf F[i]) i with c | c | c
  · exact absurd h1 (List.pairwise_iff_getElem.mp hn _ _ (idx_get hm) h c)
  · exact c
  · exact absurd h1.symm (List.pairwise_iff_getElem.mp hn _ _ h (idx_get hm) c)
theorem mem_take {F : List Int} (hn : F.Nodup) {a : Int} (ha : a ∈ F) (i : Nat) : a ∈ F.take i ↔ F.idxOf a < i := by
  constructor
  · intro h
    obtain ⟨j, hj, e⟩ := List.getElem_of_mem h
    rw [List.getElem_take] at e
    rw [List.length_take] at hj
    have := idx_of_get hn (i := j) (by omega)
    rw [e] at this
    omega
  · intro h
    have h1 := get_idx (idx_get ha)
    have : F.idxOf a < (F.take i).length := by
      rw [List.length_take]
      have := idx_get ha
      omega
    rw [← h1, ← List.getElem_take (h := this)]
    exact List.getElem_mem _
theorem sum_map_le {α : Type} {l : List α} {f g : α → Int} (h : ∀ x ∈ l, f x ≤ g x) : (l.map f).sum ≤ (l.map g).sum := by
  induction l with
  | nil => exact Int.le_refl _
  | cons x l ih =>
    rw [List.map_cons, List.map_cons, List.sum_cons, List.sum_cons]
    have := h x List.mem_cons_self
    have := ih fun y hy => h y (List.mem_cons_of_mem _ hy)
    omega
theorem sum_map_eq {α : Type} {l : List α} {f g : α → Int} (h : ∀ x ∈ l, f x = g x) : (l.map f).sum = (l.map g).sum := by
  have a := sum_map_le fun x hx => Int.le_of_eq (h x hx)
  have b := sum_map_le fun x hx => Int.le_of_eq (h x hx).symm
  omega
theorem sum_map_sub {α : Type} {l : List α} {f g k : α → Int} (h : ∀ x ∈ l, f x = g x - k x) : (l.map f).sum = (l.map g).sum - (l.map k).sum := by
  induction l with
  | nil => rfl
  | cons x l ih =>
    rw [List.map_cons, List.map_cons, List.map_cons, List.sum_cons, List.sum_cons, List.sum_cons]
    have := h x List.mem_cons_self
    have := ih fun y hy => h y (List.mem_cons_of_mem _ hy)
    omega
theorem sw_map {α : Type} (l : List α) (f : α → It) (p : It → Bool) : sw (l.map f) p = (l.map fun x => if p (f x) then (f x).2.2 else 0).sum := by
  unfold sw
  rw [List.map_map]
  rfl
section
variable {n : Int} {hv : List T3} {F : List Int}
/-- each tie's end stands somewhere in the order -/
structure Ord (n : Int) (F : List Int) : Prop where
  nd : F.Nodup
  all : ∀ q, q ∈ F ↔ 0 ≤ q ∧ q < n
theorem Ord.ends (o : Ord n F) (w : Web n hv) {t : T3} (h : t ∈ hv) : t.1 ∈ F ∧ t.2.1 ∈ F ∧ F.idxOf t.1 ≠ F.idxOf t.2.1 ∧ 0 ≤ t.2.2 := by
  obtain ⟨h1, h2, h3, h4⟩ := w.ok t h
  have ha : t.1 ∈ F := (o.all _).mpr ⟨h1, by omega⟩
  have hb : t.2.1 ∈ F := (o.all _).mpr ⟨by omega, h3⟩
  exact ⟨ha, hb, fun e => by have := idx_inj ha hb e; omega, h4⟩
/-- what a place has to those ahead, position by position -/
def Rw (hv : List T3) (F : List Int) (j i : Nat) : Int := wt hv (F.take j) (F.getD i (-1))
theorem late_wt (o : Ord n F) (w : Web n hv) {i j : Nat} (hji : j ≤ i) : sw (hv.map (item F)) (lateB i j) = Rw hv F i i - Rw hv F j i := by
  rw [sw_map]
  unfold Rw wt
  refine sum_map_sub fun t ht => ?_
  obtain ⟨ha, hb, hne, h4⟩ := o.ends w ht
  unfold lateB item
  have ia := idx_get ha
  have ib := idx_get hb
  have ga := get_idx ia
  have gb := get_idx ib
  have mi := mem_take o.nd ha i
  have mj := mem_take o.nd ha j
  have ni := mem_take o.nd hb i
  have nj := mem_take o.nd hb j
  have qa : t.1 = F.getD i (-1) ↔ F.idxOf t.1 = i := by
    rw [List.getD_eq_getElem?_getD]
    by_cases c : i < F.length
    · rw [List.getElem?_eq_getElem c, Option.getD_some]
      constructor
      · intro e
        rw [e]
        exact idx_of_get o.nd c
      · intro e
        rw [← ga]
        congr 1
    · rw [List.getElem?_eq_none (by omega), Option.getD_none]
      constructor
      · intro e
        have := ((o.all _).mp ha).1
        omega
      · intro e
        omega
  have qb : t.2.1 = F.getD i (-1) ↔ F.idxOf t.2.1 = i := by
    rw [List.getD_eq_getElem?_getD]
    by_cases c : i < F.length
    · rw [List.getElem?_eq_getElem c, Option.getD_some]
      constructor
      · intro e
        rw [e]
        exact idx_of_get o.nd c
      · intro e
        rw [← gb]
        congr 1
    · rw [List.getElem?_eq_none (by omega), Option.getD_none]
      constructor
      · intro e
        have := ((o.all _).mp hb).1
        omega
      · intro e
        omega
  simp only [mi, mj, ni, nj, qa, qb, Bool.and_eq_true, decide_eq_true_eq]
  generalize F.idxOf t.1 = x at *
  generalize F.idxOf t.2.1 = y at *
  by_cases c1 : x = i <;> by_cases c2 : y = i <;> by_cases c3 : x < j <;> by_cases c4 : y < j <;> by_cases c5 : x < i <;> by_cases c6 : y < i <;> (try omega) <;> simp only [c1, c2, c3, c4, c5, c6, if_true, if_false, and_true, true_and, and_false, false_and, and_self] <;> (first | omega | (split <;> omega))
theorem ma_Rw (o : Ord n F) (m : MA n hv F) {i j : Nat} (hi : i < F.length) (hji : j ≤ i) (w : Web n hv) : Rw hv F j i ≤ Rw hv F j j := by
  have e : ∀ {k : Nat} (h : k < F.length), F.getD k (-1) = F[k] := fun {k} h => by rw [List.getD_eq_getElem?_getD, List.getElem?_eq_getElem h]; rfl
  unfold Rw
  rw [e hi, e (by omega)]
  by_cases c : j = 0
  · subst c
    rw [List.take_zero]
    unfold wt
    refine sum_map_le fun t ht => ?_
    simp
  · have hm : F[i] ∈ F := List.getElem_mem hi
    obtain ⟨q0, q1⟩ := (o.all _).mp hm
    refine m j (by omega) (by omega) _ q0 q1 fun z => ?_
    have := (mem_take o.nd hm j).mp z
    rw [idx_of_get o.nd hi] at this
    omega
theorem Rw_out (hi : F.length ≤ i) (o : Ord n F) (w : Web n hv) (j : Nat) : Rw hv F j i = 0 := by
  unfold Rw wt
  rw [List.getD_eq_getElem?_getD, List.getElem?_eq_none hi, Option.getD_none]
  have e : (hv.map fun t => (if t.1 ∈ F.take j ∧ t.2.1 = -1 then t.2.2 else 0) + (if t.2.1 ∈ F.take j ∧ t.1 = -1 then t.2.2 else 0)).sum = (hv.map fun _ => (0 : Int)).sum := sum_map_eq fun t ht => by
    obtain ⟨h1, h2, h3, h4⟩ := w.ok t ht
    rw [if_neg (fun z => by omega), if_neg (fun z => by omega)]
    rfl
  rw [e]
  clear e
  induction hv with
  | nil => rfl
  | cons t l ih => rw [List.map_cons, List.sum_cons, ih ⟨fun t ht => w.ok t (List.mem_cons_of_mem _ ht)⟩]; rfl
theorem wt_nonneg (w : Web n hv) (A : List Int) (q : Int) : 0 ≤ wt hv A q := by
  unfold wt
  have : (hv.map fun _ => (0 : Int)).sum ≤ (hv.map fun t => (if t.1 ∈ A ∧ t.2.1 = q then t.2.2 else 0) + (if t.2.1 ∈ A ∧ t.1 = q then t.2.2 else 0)).sum := sum_map_le fun t ht => by
    have := (w.ok t ht).2.2.2
    split <;> split <;> omega
  have e : (hv.map fun _ => (0 : Int)).sum = 0 := by
    clear this w
    induction hv with
    | nil => rfl
    | cons t l ih => rw [List.map_cons, List.sum_cons, ih]; rfl
  omega
theorem Rw_le (o : Ord n F) (m : MA n hv F) (w : Web n hv) {i j : Nat} (hji : j ≤ i) : Rw hv F j i ≤ Rw hv F j j := by
  by_cases c : i < F.length
  · exact ma_Rw o m c hji w
  · rw [Rw_out (by omega) o w]
    exact wt_nonneg w _ _
theorem items_ok (o : Ord n F) (w : Web n hv) : (∀ e ∈ hv.map (item F), 0 ≤ e.2.2) ∧ ∀ e ∈ hv.map (item F), e.1 < e.2.1 := by
  constructor
  · intro e he
    obtain ⟨t, ht, rfl⟩ := List.mem_map.mp he
    exact (w.ok t ht).2.2.2
  · intro e he
    obtain ⟨t, ht, rfl⟩ := List.mem_map.mp he
    obtain ⟨_, _, h, _⟩ := o.ends w ht
    unfold item
    simp only
    omega
/-- the last two places: no side with just one of both weighs less than the last one by itself -/
theorem last_two (o : Ord n F) (m : MA n hv F) (w : Web n hv) {k : Nat} (hk : k + 2 = F.length) (s : Int → Bool) (hs : s (F.getD k (-1)) ≠ s (F.getD (k + 1) (-1))) : wt hv (F.take (k + 1)) (F.getD (k + 1) (-1)) ≤ cw hv s := by
  obtain ⟨i0, i1⟩ := items_ok o w
  have h := active_at (E := hv.map (item F)) (P := fun i => s (F.getD i (-1))) (R := Rw hv F) i0 i1 (fun i j hji => late_wt o w hji) (fun i j hji => Rw_le o m w hji) (by
    have e : Rw hv F 0 0 ≤ 0 := by
      unfold Rw wt
      rw [List.take_zero]
      have : (hv.map fun t => (if t.1 ∈ ([] : List Int) ∧ t.2.1 = F.getD 0 (-1) then t.2.2 else 0) + (if t.2.1 ∈ ([] : List Int) ∧ t.1 = F.getD 0 (-1) then t.2.2 else 0)).sum = (hv.map fun _ => (0 : Int)).sum := sum_map_eq fun t ht => by simp
      rw [this]
      clear this i0 i1 m w
      induction hv with
      | nil => exact Int.le_refl _
      | cons t l ih => rw [List.map_cons, List.sum_cons]; omega
    exact e) (i := k) hs
  refine Int.le_trans h ?_
  rw [sw_map]
  refine sum_map_le fun t ht => ?_
  obtain ⟨ha, hb, hne, h4⟩ := o.ends w ht
  have ga := get_idx (idx_get ha)
  have gb := get_idx (idx_get hb)
  have ea : F.getD (F.idxOf t.1) (-1) = t.1 := by rw [List.getD_eq_getElem?_getD, List.getElem?_eq_getElem (idx_get ha), Option.getD_some, ga]
  have eb : F.getD (F.idxOf t.2.1) (-1) = t.2.1 := by rw [List.getD_eq_getElem?_getD, List.getElem?_eq_getElem (idx_get hb), Option.getD_some, gb]
  unfold crs item
  simp only
  cases c : (s t.1 != s t.2.1) with
  | true =>
    simp only [if_true]
    split <;> omega
  | false =>
    have c' : s t.1 = s t.2.1 := by simpa using c
    have : (s (F.getD (min (F.idxOf t.1) (F.idxOf t.2.1)) (-1)) != s (F.getD (max (F.idxOf t.1) (F.idxOf t.2.1)) (-1))) = false := by
      rcases Nat.le_total (F.idxOf t.1) (F.idxOf t.2.1) with c2 | c2
      · rw [Nat.min_eq_left c2, Nat.max_eq_right c2, ea, eb, c']
        simp
      · rw [Nat.min_eq_right c2, Nat.max_eq_left c2, ea, eb, c']
        simp
    rw [this]
    simp
/-- the last place by itself -/
theorem last_cw (o : Ord n F) (w : Web n hv) {k : Nat} (hk : k + 1 = F.length) : cw hv (fun a => decide (a = F.getD k (-1))) = wt hv (F.take k) (F.getD k (-1)) := by
  unfold cw wt
  refine sum_map_eq fun t ht => ?_
  obtain ⟨ha, hb, hne, h4⟩ := o.ends w ht
  have ia := idx_get ha
  have ib := idx_get hb
  have ga := get_idx ia
  have gb := get_idx ib
  have mi := mem_take o.nd ha k
  have ni := mem_take o.nd hb k
  have ek : F.getD k (-1) = F[k]'(by omega) := by rw [List.getD_eq_getElem?_getD, List.getElem?_eq_getElem (by omega)]; rfl
  have ik := idx_of_get o.nd (i := k) (by omega)
  have qa : t.1 = F.getD k (-1) ↔ F.idxOf t.1 = k := by
    rw [ek]
    exact ⟨fun e => by rw [e]; exact ik, fun e => by rw [← ga]; congr 1⟩
  have qb : t.2.1 = F.getD k (-1) ↔ F.idxOf t.2.1 = k := by
    rw [ek]
    exact ⟨fun e => by rw [e]; exact ik, fun e => by rw [← gb]; congr 1⟩
  simp only [mi, ni, qa, qb]
  clear ga gb mi ni qa qb ik ek
  generalize F.idxOf t.1 = x at *
  generalize F.idxOf t.2.1 = y at *
  by_cases c1 : x = k <;> by_cases c2 : y = k <;> by_cases c5 : x < k <;> by_cases c6 : y < k <;> (try omega) <;> simp [c1, c2, c5, c6]
end
end Heav
end T_HeavM

section T_HeavN
set_option linter.all false
set_option maxRecDepth 100000
/-! HeavN: bands and heads. Plain. -/
namespace Heav
open PySem Sim FamA

def pairB (l i : Nat) : It → Bool := fun e => decide (e.1 = l) && decide (e.2.1 = i)
theorem sw_eq {E : List It} {p q : It → Bool} (h : ∀ e ∈ E, p e = q e) : sw E p = sw E q := by
  unfold sw
  exact sum_map_eq fun e he => by rw [h e he]
theorem sw_split {E : List It} {p q r : It → Bool} (h1 : ∀ e ∈ E, r e = (p e || q e)) (h2 : ∀ e ∈ E, p e = true → q e = false) : sw E r = sw E p + sw E q := by
  induction E with
  | nil => rfl
  | cons e E ih =>
    rw [sw_cons, sw_cons, sw_cons, ih (fun x hx => h1 x (List.mem_cons_of_mem _ hx)) fun x hx => h2 x (List.mem_cons_of_mem _ hx), h1 e List.mem_cons_self]
    have a := h2 e List.mem_cons_self
    cases hp : p e <;> cases hq : q e <;> simp_all <;> omega
theorem sw_zero {E : List It} {p : It → Bool} (h : ∀ e ∈ E, p e = false) : sw E p = 0 := by
  induction E with
  | nil => rfl
  | cons e E ih => rw [sw_cons, h e List.mem_cons_self, ih fun x hx => h x (List.mem_cons_of_mem _ hx)]; rfl
theorem sw_snoc (E : List It) (e : It) (p : It → Bool) : sw (E ++ [e]) p = sw E p + (if p e then e.2.2 else 0) := by
  induction E with
  | nil => rw [List.nil_append, sw_cons, sw_nil]; omega
  | cons x E ih => rw [List.cons_append, sw_cons, sw_cons, ih]; omega
theorem take_succ_map {α β : Type} (l : List α) (f : α → β) {m : Nat} (h : m < l.length) : (l.map f).take (m + 1) = (l.map f).take m ++ [f l[m]] := by
  rw [List.take_add_one, List.getElem?_map, List.getElem?_eq_getElem h]
  rfl
theorem late_split {E : List It} {i j : Nat} (h : ∀ e ∈ E, e.1 < e.2.1) : sw E (lateB i j) = sw E (lateB i (j + 1)) + sw E (pairB j i) := by
  refine sw_split (fun e he => ?_) fun e he h1 => ?_
  · unfold lateB pairB
    rw [Bool.eq_iff_iff]
    simp only [Bool.or_eq_true, Bool.and_eq_true, decide_eq_true_eq]
    omega
  · unfold lateB at h1
    unfold pairB
    rw [Bool.and_eq_true, decide_eq_true_eq, decide_eq_true_eq] at h1
    rw [decide_eq_false (show ¬ e.1 = j by omega)]
    rfl
section
variable {n : Int} {hv : List T3} {F : List Int}
theorem Rw_succ (o : Ord n F) (w : Web n hv) {l i : Nat} (h : l < i) : Rw hv F (l + 1) i = Rw hv F l i + sw (hv.map (item F)) (pairB l i) := by
  have a := late_wt o w (i := i) (j := l) (by omega)
  have b := late_wt o w (i := i) (j := l + 1) (by omega)
  have c := late_split (E := hv.map (item F)) (i := i) (j := l) (items_ok o w).2
  omega
theorem Rw_mono (o : Ord n F) (w : Web n hv) {i : Nat} : ∀ {l m : Nat}, l ≤ m → m ≤ i → Rw hv F l i ≤ Rw hv F m i := by
  intro l m
  induction m with
  | zero => intro h _; rw [show l = 0 by omega]; exact Int.le_refl _
  | succ m ih =>
    intro h hm
    by_cases c : l = m + 1
    · rw [c]; exact Int.le_refl _
    · have := ih (by omega) (by omega)
      have h2 := Rw_succ o w (l := m) (i := i) (by omega)
      have h3 : sw (hv.map (item F)) (fun _ => false) ≤ sw (hv.map (item F)) (pairB m i) := sw_le (items_ok o w).1 fun _ _ z => nomatch z
      rw [sw_zero (fun _ _ => rfl)] at h3
      omega
theorem Rw_zero (w : Web n hv) (i : Nat) : Rw hv F 0 i = 0 := by
  unfold Rw wt
  rw [List.take_zero]
  clear w
  induction hv with
  | nil => rfl
  | cons t l ih => rw [List.map_cons, List.sum_cons, ih]; simp
/-- where a tie's band begins -/
def lo (hv : List T3) (F : List Int) (k : Nat) : Int := match hv[k]? with
  | some t => Rw hv F (item F t).1 (item F t).2.1 + sw ((hv.map (item F)).take k) (pairB (item F t).1 (item F t).2.1)
  | none => 0
theorem lo_eq {k : Nat} (h : k < hv.length) : lo hv F k = Rw hv F (item F hv[k]).1 (item F hv[k]).2.1 + sw ((hv.map (item F)).take k) (pairB (item F hv[k]).1 (item F hv[k]).2.1) := by
  unfold lo
  rw [List.getElem?_eq_getElem h]
/-- heads of the bands below a number -/
structure Heads (N : Int) (hv : List T3) (F : List Int) (hs : List Int) : Prop where
  len : hs.length = hv.length
  at' : ∀ k (h : k < hv.length) (h2 : k < hs.length), hs[k] = min N (lo hv F k + hv[k].2.2) - min N (lo hv F k)
def thin (hv : List T3) (hs : List Int) : List T3 := (hv.zip hs).map fun p => (p.1.1, p.1.2.1, p.2)
theorem thin_len (h : hs.length = hv.length) : (thin hv hs).length = hv.length := by unfold thin; rw [List.length_map, List.length_zip]; omega
theorem thin_get {hs : List Int} (h : hs.length = hv.length) {k : Nat} (hk : k < hv.length) : (thin hv hs)[k]'(by rw [thin_len h]; exact hk) = (hv[k].1, hv[k].2.1, hs[k]'(by omega)) := by
  unfold thin
  rw [List.getElem_map, List.getElem_zip]
theorem thin_mem {hs : List Int} (h : hs.length = hv.length) {t : T3} (ht : t ∈ thin hv hs) : ∃ k, ∃ (hk : k < hv.length), t = (hv[k].1, hv[k].2.1, hs[k]'(by omega)) := by
  obtain ⟨k, hk, e⟩ := List.getElem_of_mem ht
  rw [thin_len h] at hk
  rw [thin_get h hk] at e
  exact ⟨k, hk, e.symm⟩
section
variable {N : Int} {hs : List Int}
theorem head_rng (H : Heads N hv F hs) (w : Web n hv) {k : Nat} (h : k < hv.length) : 0 ≤ hs[k]'(by rw [H.len]; exact h) ∧ hs[k]'(by rw [H.len]; exact h) ≤ hv[k].2.2 := by
  rw [H.at' k h]
  have := (w.ok _ (List.getElem_mem h)).2.2.2
  omega
theorem thin_web (H : Heads N hv F hs) (w : Web n hv) : Web n (thin hv hs) := ⟨fun t ht => by
  obtain ⟨k, hk, rfl⟩ := thin_mem H.len ht
  obtain ⟨h1, h2, h3, h4⟩ := w.ok _ (List.getElem_mem hk)
  exact ⟨h1, h2, h3, (head_rng H w hk).1⟩⟩
theorem item_thin {hs : List Int} (h : hs.length = hv.length) {k : Nat} (hk : k < hv.length) : item F ((thin hv hs)[k]'(by rw [thin_len h]; exact hk)) = ((item F hv[k]).1, (item F hv[k]).2.1, hs[k]'(by omega)) := by
  rw [thin_get h hk]
  rfl
/-- the heads between two places, one behind the other -/
theorem pair_heads (H : Heads N hv F hs) (w : Web n hv) {l i : Nat} : ∀ m, m ≤ hv.length → sw (((thin hv hs).map (item F)).take m) (pairB l i) = min N (Rw hv F l i + sw ((hv.map (item F)).take m) (pairB l i)) - min N (Rw hv F l i)
  | 0, _ => by rw [List.take_zero, List.take_zero, sw_nil]; omega
  | m + 1, hm => by
    have ih := pair_heads H w (l := l) (i := i) m (by omega)
    have hk : m < hv.length := by omega
    rw [take_succ_map _ _ (by rw [thin_len H.len]; exact hk), take_succ_map _ _ hk, sw_snoc, sw_snoc, ih, item_thin H.len hk]
    have hh := H.at' m hk (by rw [H.len]; exact hk)
    rw [lo_eq hk] at hh
    have hw := (w.ok _ (List.getElem_mem hk)).2.2.2
    by_cases c : pairB l i (item F hv[m]) = true
    · have c' : pairB l i ((item F hv[m]).1, (item F hv[m]).2.1, hs[m]'(by rw [H.len]; exact hk)) = true := c
      rw [if_pos c, if_pos c']
      unfold pairB at c
      rw [Bool.and_eq_true, decide_eq_true_eq, decide_eq_true_eq] at c
      rw [c.1, c.2] at hh
      show _ + hs[m]'(by rw [H.len]; exact hk) = min N (_ + (_ + hv[m].2.2)) - _
      rw [hh]
      omega
    · have c' : ¬ pairB l i ((item F hv[m]).1, (item F hv[m]).2.1, hs[m]'(by rw [H.len]; exact hk)) = true := c
      rw [if_neg c, if_neg c']
      omega
theorem pair_all (H : Heads N hv F hs) (w : Web n hv) (o : Ord n F) {l i : Nat} (h : l < i) : sw ((thin hv hs).map (item F)) (pairB l i) = min N (Rw hv F (l + 1) i) - min N (Rw hv F l i) := by
  have := pair_heads H w (l := l) (i := i) hv.length (Nat.le_refl _)
  rw [List.take_of_length_le (by rw [List.length_map, thin_len H.len]; exact Nat.le_refl _), List.take_of_length_le (by rw [List.length_map]; exact Nat.le_refl _), ← Rw_succ o w h] at this
  exact this
theorem late_heads (H : Heads N hv F hs) (w : Web n hv) (o : Ord n F) (i : Nat) : ∀ d j, j + d = i → sw ((thin hv hs).map (item F)) (lateB i j) = min N (Rw hv F i i) - min N (Rw hv F j i)
  | 0, j, e => by
    have : j = i := by omega
    subst this
    rw [sw_zero fun e he => ?_]
    · omega
    · have := (items_ok o (thin_web H w)).2 e he
      unfold lateB
      by_cases c : e.2.1 = j
      · rw [decide_eq_false (show ¬ j ≤ e.1 by omega), Bool.and_false]
      · rw [decide_eq_false c, Bool.false_and]
  | d + 1, j, e => by
    have ih := late_heads H w o i d (j + 1) (by omega)
    have h1 := late_split (E := (thin hv hs).map (item F)) (i := i) (j := j) (items_ok o (thin_web H w)).2
    have h2 := pair_all H w o (l := j) (i := i) (by omega)
    omega
theorem flip_at {P : Nat → Bool} : ∀ (d l : Nat), P l ≠ P (l + d) → ∃ a, l ≤ a ∧ a < l + d ∧ P a ≠ P (a + 1)
  | 0, l, h => absurd rfl h
  | d + 1, l, h => by
    by_cases c : P l = P (l + 1)
    · obtain ⟨a, h1, h2, h3⟩ := flip_at (P := P) d (l + 1) (by rw [← c, show l + 1 + d = l + (d + 1) by omega]; exact h)
      exact ⟨a, by omega, by omega, h3⟩
    · exact ⟨l, Nat.le_refl _, by omega, c⟩
theorem getD_idx {F : List Int} {a : Int} (h : a ∈ F) : F.getD (F.idxOf a) (-1) = a := by
  rw [List.getD_eq_getElem?_getD, List.getElem?_eq_getElem (idx_get h), Option.getD_some, get_idx]
/-- what lies over a side's rim, by the items -/
theorem cw_items (o : Ord n F) (w : Web n hv) (s : Int → Bool) (i : Nat) : sw (hv.map (item F)) (crs (fun j => s (F.getD j (-1))) i) ≤ cw hv s := by
  rw [sw_map]
  refine sum_map_le fun t ht => ?_
  obtain ⟨ha, hb, hne, h4⟩ := o.ends w ht
  have ea := getD_idx ha
  have eb := getD_idx hb
  unfold crs item
  simp only
  cases c : (s t.1 != s t.2.1) with
  | true =>
    simp only [if_true]
    split <;> omega
  | false =>
    have c' : s t.1 = s t.2.1 := by simpa using c
    have : (s (F.getD (min (F.idxOf t.1) (F.idxOf t.2.1)) (-1)) != s (F.getD (max (F.idxOf t.1) (F.idxOf t.2.1)) (-1))) = false := by
      rcases Nat.le_total (F.idxOf t.1) (F.idxOf t.2.1) with c2 | c2
      · rw [Nat.min_eq_left c2, Nat.max_eq_right c2, ea, eb, c']
        simp
      · rw [Nat.min_eq_right c2, Nat.max_eq_left c2, ea, eb, c']
        simp
    rw [this]
    simp
theorem cw_thin_eq {s : Int → Bool} (h : hs.length = hv.length) (hf : ∀ k (hk : k < hv.length), (s hv[k].1 != s hv[k].2.1) = true → hs[k]'(by omega) = hv[k].2.2) : cw (thin hv hs) s = cw hv s := by
  unfold cw
  have e : ((thin hv hs).map fun t => if s t.1 != s t.2.1 then t.2.2 else 0) = hv.map fun t => if s t.1 != s t.2.1 then t.2.2 else 0 := by
    apply List.ext_getElem
    · rw [List.length_map, List.length_map, thin_len h]
    · intro k h1 h2
      rw [List.length_map] at h2
      rw [List.getElem_map, List.getElem_map, thin_get h h2]
      by_cases c : (s hv[k].1 != s hv[k].2.1) = true
      · rw [if_pos c, if_pos c]
        exact hf k h2 c
      · rw [if_neg c, if_neg c]
  rw [e]
/-- over each side's rim the heads come to the number, or to all -/
theorem heads_side (H : Heads N hv F hs) (w : Web n hv) (o : Ord n F) (m : MA n hv F) (N0 : 0 ≤ N) (s : Int → Bool) : min N (cw hv s) ≤ cw (thin hv hs) s := by
  by_cases c : ∀ k (hk : k < hv.length), (s hv[k].1 != s hv[k].2.1) = true → hs[k]'(by rw [H.len]; exact hk) = hv[k].2.2
  · rw [cw_thin_eq H.len c]
    omega
  · obtain ⟨k, hk, hc, hne⟩ : ∃ k, ∃ (hk : k < hv.length), (s hv[k].1 != s hv[k].2.1) = true ∧ hs[k]'(by rw [H.len]; exact hk) ≠ hv[k].2.2 := by
      apply Classical.byContradiction
      intro z
      exact c fun k hk h1 => Classical.byContradiction fun h2 => z ⟨k, hk, h1, h2⟩
    rw [bne_iff_ne] at hc
    obtain ⟨ha, hb, hi, h4⟩ := o.ends w (List.getElem_mem hk)
    have hh := H.at' k hk (by rw [H.len]; exact hk)
    have hbig : N < lo hv F k + hv[k].2.2 := by
      rw [hh] at hne
      omega
    rw [lo_eq hk] at hbig
    have hlt : (item F hv[k]).1 < (item F hv[k]).2.1 := (items_ok o w).2 _ (List.mem_map.mpr ⟨_, List.getElem_mem hk, rfl⟩)
    have hPne : s (F.getD (item F hv[k]).1 (-1)) ≠ s (F.getD (item F hv[k]).2.1 (-1)) := by
      have ea := getD_idx ha
      have eb := getD_idx hb
      show s (F.getD (min (F.idxOf hv[k].1) (F.idxOf hv[k].2.1)) (-1)) ≠ s (F.getD (max (F.idxOf hv[k].1) (F.idxOf hv[k].2.1)) (-1))
      rcases Nat.le_total (F.idxOf hv[k].1) (F.idxOf hv[k].2.1) with c2 | c2
      · rw [Nat.min_eq_left c2, Nat.max_eq_right c2, ea, eb]
        exact hc
      · rw [Nat.min_eq_right c2, Nat.max_eq_left c2, ea, eb]
        exact Ne.symm hc
    have hp : sw ((hv.map (item F)).take (k + 1)) (pairB (item F hv[k]).1 (item F hv[k]).2.1) = sw ((hv.map (item F)).take k) (pairB (item F hv[k]).1 (item F hv[k]).2.1) + hv[k].2.2 := by
      rw [take_succ_map _ _ hk, sw_snoc, if_pos (by unfold pairB; simp)]
      rfl
    have hle : sw ((hv.map (item F)).take (k + 1)) (pairB (item F hv[k]).1 (item F hv[k]).2.1) ≤ sw (hv.map (item F)) (pairB (item F hv[k]).1 (item F hv[k]).2.1) := by
      have e : hv.map (item F) = (hv.map (item F)).take (k + 1) ++ (hv.map (item F)).drop (k + 1) := (List.take_append_drop _ _).symm
      have e2 : ∀ (A B : List It) p, sw (A ++ B) p = sw A p + sw B p := fun A B p => by
        unfold sw
        rw [List.map_append, List.sum_append]
      have h0 : 0 ≤ sw ((hv.map (item F)).drop (k + 1)) (pairB (item F hv[k]).1 (item F hv[k]).2.1) := by
        have := sw_le (E := (hv.map (item F)).drop (k + 1)) (p := fun _ => false) (r := pairB (item F hv[k]).1 (item F hv[k]).2.1) (fun e he => (items_ok o w).1 e (List.mem_of_mem_drop he)) fun _ _ z => nomatch z
        rw [sw_zero (fun _ _ => rfl)] at this
        exact this
      conv => rhs; rw [e]
      rw [e2]
      omega
    have hs1 := Rw_succ o w hlt
    generalize hl : (item F hv[k]).1 = l at *
    generalize hi' : (item F hv[k]).2.1 = i at *
    obtain ⟨a, a1, a2, a3⟩ := flip_at (P := fun j => s (F.getD j (-1))) (i - l) l (by rw [show l + (i - l) = i by omega]; exact hPne)
    obtain ⟨i0, i1⟩ := items_ok o (thin_web H w)
    have hact := active_at (E := (thin hv hs).map (item F)) (P := fun j => s (F.getD j (-1))) (R := fun j i => min N (Rw hv F j i)) i0 i1 (fun i j hji => late_heads H w o i (i - j) j (by omega)) (fun i j hji => by
      have := Rw_le o m w hji
      show min N _ ≤ min N _
      omega) (by
      show min N (Rw hv F 0 0) ≤ 0
      rw [Rw_zero w]
      omega) (i := a) a3
    have hc1 := cw_items o (thin_web H w) s (a + 1)
    have r1 := Rw_le o m w (i := i) (j := a + 1) (by omega)
    have r2 := Rw_mono o w (i := i) (l := l + 1) (m := a + 1) (by omega) (by omega)
    have hact : min N (Rw hv F (a + 1) (a + 1)) ≤ sw ((thin hv hs).map (item F)) (crs (fun j => s (F.getD j (-1))) (a + 1)) := hact
    omega
/-- all heads together -/
theorem heads_sum (H : Heads N hv F hs) (w : Web n hv) (o : Ord n F) (N0 : 0 ≤ N) : ∀ i : Nat, sw ((thin hv hs).map (item F)) (fun e => decide (e.2.1 ≤ i)) ≤ N * (i : Int)
  | 0 => by
    rw [sw_zero fun e he => ?_]
    · simp
    · have := (items_ok o (thin_web H w)).2 e he
      exact decide_eq_false (by omega)
  | i + 1 => by
    have ih := heads_sum H w o N0 i
    have h1 := late_heads H w o (i + 1) (i + 1) 0 (by omega)
    have h2 := sw_split (E := (thin hv hs).map (item F)) (r := fun e => decide (e.2.1 ≤ i + 1)) (p := fun e => decide (e.2.1 ≤ i)) (q := lateB (i + 1) 0) (fun e he => by
      unfold lateB
      rw [Bool.eq_iff_iff]
      simp only [Bool.or_eq_true, Bool.and_eq_true, decide_eq_true_eq]
      omega) fun e he h => by
      rw [decide_eq_true_eq] at h
      unfold lateB
      rw [decide_eq_false (show ¬ e.2.1 = i + 1 by omega)]
      rfl
    rw [Rw_zero w] at h1
    rw [h2, Int.natCast_add, Int.mul_add]
    omega
theorem sum_thin (h : hs.length = hv.length) : sw ((thin hv hs).map (item F)) (fun _ => true) = hs.sum := by
  rw [sw_map]
  have e : ((thin hv hs).map fun x => if (true : Bool) = true then (item F x).2.2 else 0) = hs := by
    apply List.ext_getElem
    · rw [List.length_map, thin_len h, h]
    · intro k h1 h2
      rw [List.getElem_map, thin_get h (by omega)]
      rfl
  rw [e]
theorem heads_all (H : Heads N hv F hs) (w : Web n hv) (o : Ord n F) (N0 : 0 ≤ N) (hF : F.length = n.toNat) (n1 : 1 ≤ n) : hs.sum ≤ N * (n - 1) := by
  have h := heads_sum H w o N0 (n - 1).toNat
  have e := sw_eq (E := (thin hv hs).map (item F)) (p := fun _ => true) (q := fun e => decide (e.2.1 ≤ (n - 1).toNat)) fun e he => by
    obtain ⟨t, ht, rfl⟩ := List.mem_map.mp he
    obtain ⟨ha, hb, _, _⟩ := o.ends (thin_web H w) ht
    have := idx_get ha
    have := idx_get hb
    refine (decide_eq_true ?_).symm
    show max (F.idxOf t.1) (F.idxOf t.2.1) ≤ _
    omega
  rw [← e, sum_thin H.len, Int.toNat_of_nonneg (by omega)] at h
  exact h
end
end
end Heav
end T_HeavN

section T_K49
set_option Elab.async false
set_option linter.all false
set_option maxRecDepth 100000
set_option maxHeartbeats 4000000
namespace K49
open PySem PySem.Spec L2 Sim
open PyProof.Rows hiding St
def topS (i : Nat) : Stmt := PySem.Challenge.pw_sinceply_k49_order_and_bands_told.main.body.getD i (.Pass ⟨0, 0, 0, 0⟩)
abbrev st_is_whole_records : Stmt := topS 10
theorem sc_is_whole_records : FnScope ["thing"] ["thing"] (defScope st_is_whole_records) := ⟨rfl, rfl, rfl, by decide +kernel, rfl, by decide +kernel, by decide +kernel⟩
abbrev st_is_many : Stmt := topS 12
theorem sc_is_many : FnScope ["thing"] ["thing"] (defScope st_is_many) := ⟨rfl, rfl, rfl, by decide +kernel, rfl, by decide +kernel, by decide +kernel⟩
abbrev st_is_place : Stmt := topS 13
theorem sc_is_place : FnScope ["n", "thing"] ["n", "thing"] (defScope st_is_place) := ⟨rfl, rfl, rfl, by decide +kernel, rfl, by decide +kernel, by decide +kernel⟩
abbrev st_is_moment : Stmt := topS 14
theorem sc_is_moment : FnScope ["thing"] ["thing"] (defScope st_is_moment) := ⟨rfl, rfl, rfl, by decide +kernel, rfl, by decide +kernel, by decide +kernel⟩
abbrev st_is_meeting : Stmt := topS 15
theorem sc_is_meeting : FnScope ["n", "thing"] ["n", "thing"] (defScope st_is_meeting) := ⟨rfl, rfl, rfl, by decide +kernel, rfl, by decide +kernel, by decide +kernel⟩
abbrev st_record_of : Stmt := topS 16
theorem sc_record_of : FnScope ["n", "things", "thing", "found", "moment", "a", "b", "ties", "at"] ["n", "things"] (defScope st_record_of) := ⟨rfl, rfl, rfl, by decide +kernel, rfl, by decide +kernel, by decide +kernel⟩
abbrev st_is_whole_orders : Stmt := topS 20
theorem sc_is_whole_orders : FnScope ["thing"] ["thing"] (defScope st_is_whole_orders) := ⟨rfl, rfl, rfl, by decide +kernel, rfl, by decide +kernel, by decide +kernel⟩
abbrev st_is_heavy_tie : Stmt := topS 22
theorem sc_is_heavy_tie : FnScope ["n", "thing", "part"] ["n", "thing"] (defScope st_is_heavy_tie) := ⟨rfl, rfl, rfl, by decide +kernel, rfl, by decide +kernel, by decide +kernel⟩
abbrev st_look_at_heavy : Stmt := topS 23
theorem sc_look_at_heavy : FnScope ["n", "heavy", "tie"] ["n", "heavy"] (defScope st_look_at_heavy) := ⟨rfl, rfl, rfl, by decide +kernel, rfl, by decide +kernel, by decide +kernel⟩
abbrev st_next_place : Stmt := topS 24
theorem sc_next_place : FnScope ["weights", "left", "best", "place"] ["weights", "left"] (defScope st_next_place) := ⟨rfl, rfl, rfl, by decide +kernel, rfl, by decide +kernel, by decide +kernel⟩
abbrev st_order : Stmt := topS 25
theorem sc_order : FnScope ["n", "heavy", "first", "weights", "found", "left", "place", "a", "b", "weight"] ["n", "heavy", "first"] (defScope st_order) := ⟨rfl, rfl, rfl, by decide +kernel, rfl, by decide +kernel, by decide +kernel⟩
abbrev st_bands : Stmt := topS 26
theorem sc_bands : FnScope ["n", "heavy", "row", "found", "at", "low", "ahead", "k", "a", "b", "weight"] ["n", "heavy", "row"] (defScope st_bands) := ⟨rfl, rfl, rfl, by decide +kernel, rfl, by decide +kernel, by decide +kernel⟩
abbrev st_heads : Stmt := topS 27
theorem sc_heads : FnScope ["some", "number", "low", "high"] ["some", "number"] (defScope st_heads) := ⟨rfl, rfl, rfl, by decide +kernel, rfl, by decide +kernel, by decide +kernel⟩
abbrev st_l_cell_at : Stmt := topS 29
theorem sc_l_cell_at : FnScope ["script", "k"] ["script", "k"] (defScope st_l_cell_at) := ⟨rfl, rfl, rfl, by decide +kernel, rfl, by decide +kernel, by decide +kernel⟩
abbrev st_l_pool : Stmt := topS 30
theorem sc_l_pool : FnScope ["script", "at", "cell", "big", "turn", "one"] ["script", "at"] (defScope st_l_pool) := ⟨rfl, rfl, rfl, by decide +kernel, rfl, by decide +kernel, by decide +kernel⟩
abbrev st_l_take : Stmt := topS 31
theorem sc_l_take : FnScope ["pool", "many", "number"] ["pool", "many"] (defScope st_l_take) := ⟨rfl, rfl, rfl, by decide +kernel, rfl, by decide +kernel, by decide +kernel⟩
abbrev st_l_heavy : Stmt := topS 32
theorem sc_l_heavy : FnScope ["pool", "n", "most", "sort", "heavy", "k", "a", "b", "weight"] ["pool", "n", "most"] (defScope st_l_heavy) := ⟨rfl, rfl, rfl, by decide +kernel, rfl, by decide +kernel, by decide +kernel⟩
abbrev st_l_whole : Stmt := topS 33
theorem sc_l_whole : FnScope ["found"] ["found"] (defScope st_l_whole) := ⟨rfl, rfl, rfl, by decide +kernel, rfl, by decide +kernel, by decide +kernel⟩
abbrev st_l_order : Stmt := topS 34
theorem sc_l_order : FnScope ["n", "heavy", "begin", "row", "best", "place", "ahead", "a", "b", "weight"] ["n", "heavy", "begin"] (defScope st_l_order) := ⟨rfl, rfl, rfl, by decide +kernel, rfl, by decide +kernel, by decide +kernel⟩
abbrev st_l_bands : Stmt := topS 35
theorem sc_l_bands : FnScope ["heavy", "row", "found", "k", "a", "b", "weight", "late", "early", "low", "j", "c", "d", "other", "ahead"] ["heavy", "row"] (defScope st_l_bands) := ⟨rfl, rfl, rfl, by decide +kernel, rfl, by decide +kernel, by decide +kernel⟩
abbrev st_l_are : Stmt := topS 36
theorem sc_l_are : FnScope ["found", "due", "band"] ["found", "due"] (defScope st_l_are) := ⟨rfl, rfl, rfl, by decide +kernel, rfl, by decide +kernel, by decide +kernel⟩
abbrev st_l_mixed_up : Stmt := topS 37
theorem sc_l_mixed_up : FnScope ["pool", "n", "left", "row", "k"] ["pool", "n"] (defScope st_l_mixed_up) := ⟨rfl, rfl, rfl, by decide +kernel, rfl, by decide +kernel, by decide +kernel⟩
abbrev st_l_heads : Stmt := topS 38
theorem sc_l_heads : FnScope ["due", "number", "low", "high"] ["due", "number"] (defScope st_l_heads) := ⟨rfl, rfl, rfl, by decide +kernel, rfl, by decide +kernel, by decide +kernel⟩
abbrev st_law : Stmt := topS 39
theorem sc_law : FnScope ["script", "pool", "n", "at", "heavy", "begin", "row", "handed", "found", "place", "due", "some", "number", "few", "one"] ["script"] (defScope st_law) := ⟨rfl, rfl, rfl, by decide +kernel, rfl, by decide +kernel, by decide +kernel⟩
structure Tx (K : PySem.W.Frag) (mg : Str → Option Value) where
  a_is_whole_records : Addr
  d_is_whole_records : FuncData
  F_is_whole_records : L2.Fun K "is_whole" "is_whole" st_is_whole_records a_is_whole_records d_is_whole_records
  m_is_whole_records : mg "is_whole_records" = some (.ref a_is_whole_records)
  b_is_whole_records : Binds K d_is_whole_records ["thing"] []
  a_is_many : Addr
  d_is_many : FuncData
  F_is_many : L2.Fun K "is_many" "is_many" st_is_many a_is_many d_is_many
  m_is_many : mg "is_many" = some (.ref a_is_many)
  b_is_many : Binds K d_is_many ["thing"] []
  a_is_place : Addr
  d_is_place : FuncData
  F_is_place : L2.Fun K "is_place" "is_place" st_is_place a_is_place d_is_place
  m_is_place : mg "is_place" = some (.ref a_is_place)
  b_is_place : Binds K d_is_place ["n", "thing"] []
  a_is_moment : Addr
  d_is_moment : FuncData
  F_is_moment : L2.Fun K "is_moment" "is_moment" st_is_moment a_is_moment d_is_moment
  m_is_moment : mg "is_moment" = some (.ref a_is_moment)
  b_is_moment : Binds K d_is_moment ["thing"] []
  a_is_meeting : Addr
  d_is_meeting : FuncData
  F_is_meeting : L2.Fun K "is_meeting" "is_meeting" st_is_meeting a_is_meeting d_is_meeting
  m_is_meeting : mg "is_meeting" = some (.ref a_is_meeting)
  b_is_meeting : Binds K d_is_meeting ["n", "thing"] []
  a_record_of : Addr
  d_record_of : FuncData
  F_record_of : L2.Fun K "record_of" "record_of" st_record_of a_record_of d_record_of
  m_record_of : mg "record_of" = some (.ref a_record_of)
  b_record_of : Binds K d_record_of ["n", "things"] []
  a_is_whole_orders : Addr
  d_is_whole_orders : FuncData
  F_is_whole_orders : L2.Fun K "is_whole" "is_whole" st_is_whole_orders a_is_whole_orders d_is_whole_orders
  m_is_whole_orders : mg "is_whole_orders" = some (.ref a_is_whole_orders)
  b_is_whole_orders : Binds K d_is_whole_orders ["thing"] []
  a_is_heavy_tie : Addr
  d_is_heavy_tie : FuncData
  F_is_heavy_tie : L2.Fun K "is_heavy_tie" "is_heavy_tie" st_is_heavy_tie a_is_heavy_tie d_is_heavy_tie
  m_is_heavy_tie : mg "is_heavy_tie" = some (.ref a_is_heavy_tie)
  b_is_heavy_tie : Binds K d_is_heavy_tie ["n", "thing"] []
  a_look_at_heavy : Addr
  d_look_at_heavy : FuncData
  F_look_at_heavy : L2.Fun K "look_at_heavy" "look_at_heavy" st_look_at_heavy a_look_at_heavy d_look_at_heavy
  m_look_at_heavy : mg "look_at_heavy" = some (.ref a_look_at_heavy)
  b_look_at_heavy : Binds K d_look_at_heavy ["n", "heavy"] []
  a_next_place : Addr
  d_next_place : FuncData
  F_next_place : L2.Fun K "next_place" "next_place" st_next_place a_next_place d_next_place
  m_next_place : mg "next_place" = some (.ref a_next_place)
  b_next_place : Binds K d_next_place ["weights", "left"] []
  a_order : Addr
  d_order : FuncData
  F_order : L2.FunD K "order" "order" (defArgs st_order) (defBody st_order) (defScope st_order) [V.int (0)] [] a_order d_order
  m_order : mg "order" = some (.ref a_order)
  b_order : Binds K d_order ["n", "heavy", "first"] []
  a_bands : Addr
  d_bands : FuncData
  F_bands : L2.Fun K "bands" "bands" st_bands a_bands d_bands
  m_bands : mg "bands" = some (.ref a_bands)
  b_bands : Binds K d_bands ["n", "heavy", "row"] []
  a_heads : Addr
  d_heads : FuncData
  F_heads : L2.Fun K "heads" "heads" st_heads a_heads d_heads
  m_heads : mg "heads" = some (.ref a_heads)
  b_heads : Binds K d_heads ["some", "number"] []
  a_l_cell_at : Addr
  d_l_cell_at : FuncData
  F_l_cell_at : L2.Fun K "_law_cell_at" "_law_cell_at" st_l_cell_at a_l_cell_at d_l_cell_at
  m_l_cell_at : mg "_law_cell_at" = some (.ref a_l_cell_at)
  b_l_cell_at : Binds K d_l_cell_at ["script", "k"] []
  a_l_pool : Addr
  d_l_pool : FuncData
  F_l_pool : L2.Fun K "_law_pool" "_law_pool" st_l_pool a_l_pool d_l_pool
  m_l_pool : mg "_law_pool" = some (.ref a_l_pool)
  b_l_pool : Binds K d_l_pool ["script", "at"] []
  a_l_take : Addr
  d_l_take : FuncData
  F_l_take : L2.Fun K "_law_take" "_law_take" st_l_take a_l_take d_l_take
  m_l_take : mg "_law_take" = some (.ref a_l_take)
  b_l_take : Binds K d_l_take ["pool", "many"] []
  a_l_heavy : Addr
  d_l_heavy : FuncData
  F_l_heavy : L2.Fun K "_law_heavy" "_law_heavy" st_l_heavy a_l_heavy d_l_heavy
  m_l_heavy : mg "_law_heavy" = some (.ref a_l_heavy)
  b_l_heavy : Binds K d_l_heavy ["pool", "n", "most"] []
  a_l_whole : Addr
  d_l_whole : FuncData
  F_l_whole : L2.Fun K "_law_whole" "_law_whole" st_l_whole a_l_whole d_l_whole
  m_l_whole : mg "_law_whole" = some (.ref a_l_whole)
  b_l_whole : Binds K d_l_whole ["found"] []
  a_l_order : Addr
  d_l_order : FuncData
  F_l_order : L2.Fun K "_law_order" "_law_order" st_l_order a_l_order d_l_order
  m_l_order : mg "_law_order" = some (.ref a_l_order)
  b_l_order : Binds K d_l_order ["n", "heavy", "begin"] []
  a_l_bands : Addr
  d_l_bands : FuncData
  F_l_bands : L2.Fun K "_law_bands" "_law_bands" st_l_bands a_l_bands d_l_bands
  m_l_bands : mg "_law_bands" = some (.ref a_l_bands)
  b_l_bands : Binds K d_l_bands ["heavy", "row"] []
  a_l_are : Addr
  d_l_are : FuncData
  F_l_are : L2.Fun K "_law_are" "_law_are" st_l_are a_l_are d_l_are
  m_l_are : mg "_law_are" = some (.ref a_l_are)
  b_l_are : Binds K d_l_are ["found", "due"] []
  a_l_mixed_up : Addr
  d_l_mixed_up : FuncData
  F_l_mixed_up : L2.Fun K "_law_mixed_up" "_law_mixed_up" st_l_mixed_up a_l_mixed_up d_l_mixed_up
  m_l_mixed_up : mg "_law_mixed_up" = some (.ref a_l_mixed_up)
  b_l_mixed_up : Binds K d_l_mixed_up ["pool", "n"] []
  a_l_heads : Addr
  d_l_heads : FuncData
  F_l_heads : L2.Fun K "_law_heads" "_law_heads" st_l_heads a_l_heads d_l_heads
  m_l_heads : mg "_law_heads" = some (.ref a_l_heads)
  b_l_heads : Binds K d_l_heads ["due", "number"] []
  a_law : Addr
  d_law : FuncData
  F_law : L2.Fun K "law" "law" st_law a_law d_law
  m_law : mg "law" = some (.ref a_law)
  b_law : Binds K d_law ["script"] []
  n_isinstance : mg "isinstance" = none
  n_int : mg "int" = none
  n_bool : mg "bool" = none
  n_tuple : mg "tuple" = none
  n_len : mg "len" = none
  n_list : mg "list" = none
  n_all : mg "all" = none
  n_min : mg "min" = none
  n_max : mg "max" = none
  n_sorted : mg "sorted" = none
  n_range : mg "range" = none
  n_enumerate : mg "enumerate" = none
  n_sum : mg "sum" = none
  c_MOST_PLACES : ∃ tk, mg "MOST_PLACES" = some (.int (10) tk)
  c_LAST_MOMENT : ∃ tk, mg "LAST_MOMENT" = some (.int (1000000000000000000000000000000) tk)
  c_MOST_TIES_records : ∃ tk, mg "MOST_TIES_records" = some (.int (60) tk)
  c_HEAVIEST : ∃ tk, mg "HEAVIEST" = some (.int (1000000000000000000000000000000) tk)
  c_MOST_TIES_orders : ∃ tk, mg "MOST_TIES_orders" = some (.int (40) tk)
section
variable {P : Program} {w : World} {K : PySem.W.Frag} {mg : Str → Option Value} {base : Heap}
/-! ### is_whole_records -/
def g_is_whole_records : Gs := gRet (gAndV (gUn (hIsa .int) (gVar 0)) (gNotV (gUn (hIsa .bool) (gVar 0))))
def f_is_whole_records : List Dt → O Dt := fnN 1 g_is_whole_records
theorem ok_is_whole_records (t : Tx K mg) : FnOk P w K mg base CX0 1 t.a_is_whole_records t.d_is_whole_records ["thing"] (spG K mg 1 f_is_whole_records) := by
  have nd : (["thing"] : List Str).Nodup := by decide +kernel
  exact fn_okN t.F_is_whole_records (Δn := [.im false]) sc_is_whole_records rfl rfl (by decide) fun cdv A outer s H E hr => ⟨_, BD.frm [.im false] (Δb := kd0 1 1 false) (Δc := kd0 1 1 false)
    (b_one (z_ret (x_and (x_isa .int t.n_isinstance t.n_int (x_var 0)) (x_one (x_not (x_isa .bool t.n_isinstance t.n_bool (x_var 0))))))) rfl⟩
/-! ### is_many -/
def g_is_many : Gs := gRet (gAndV (gCallN 1 f_is_whole_records (gCons (gVar 0) (gNil))) (gChain hLe hLe (gC (.int (1))) (gVar 0) (gC (.int (10)))))
def f_is_many : List Dt → O Dt := fnN 1 g_is_many
theorem ok_is_many (t : Tx K mg) : FnOk P w K mg base CX0 2 t.a_is_many t.d_is_many ["thing"] (spG K mg 1 f_is_many) := by
  obtain ⟨_, h_MOST_PLACES⟩ := t.c_MOST_PLACES
  have G_is_whole_records := ok_is_whole_records (P := P) (w := w) (base := base) t
  have nd : (["thing"] : List Str).Nodup := by decide +kernel
  exact fn_okN t.F_is_many (Δn := [.im false]) sc_is_many rfl rfl (by decide) fun cdv A outer s H E hr => ⟨_, BD.frm [.im false] (Δb := kd0 1 1 false) (Δc := kd0 1 1 false)
    (b_one (z_ret (x_and (x_callN G_is_whole_records (hr.mono (by decide)) t.m_is_whole_records t.F_is_whole_records.kp t.b_is_whole_records pass0 (AD.to true false (a_cons (x_var 0) (a_nil)))) (x_one (x_chain or_le or_le (x_int) (x_var 0) (x_glob (v := .int (10)) h_MOST_PLACES ⟨_, rfl⟩ (.int _))))))) rfl⟩
/-! ### is_place -/
def g_is_place : Gs := gRet (gAndV (gCallN 1 f_is_whole_records (gCons (gVar 1) (gNil))) (gChain hLe hLt (gC (.int (0))) (gVar 1) (gVar 0)))
def f_is_place : List Dt → O Dt := fnN 2 g_is_place
theorem ok_is_place (t : Tx K mg) : FnOk P w K mg base CX0 2 t.a_is_place t.d_is_place ["n", "thing"] (spG K mg 2 f_is_place) := by
  have G_is_whole_records := ok_is_whole_records (P := P) (w := w) (base := base) t
  have nd : (["n", "thing"] : List Str).Nodup := by decide +kernel
  exact fn_okN t.F_is_place (Δn := [.im false, .im false]) sc_is_place rfl rfl (by decide) fun cdv A outer s H E hr => ⟨_, BD.frm [.im false, .im false] (Δb := kd0 2 2 false) (Δc := kd0 2 2 false)
    (b_one (z_ret (x_and (x_callN G_is_whole_records (hr.mono (by decide)) t.m_is_whole_records t.F_is_whole_records.kp t.b_is_whole_records pass0 (AD.to true false (a_cons (x_var 1) (a_nil)))) (x_one (x_chain or_le or_lt (x_int) (x_var 1) (x_var 0)))))) rfl⟩
/-! ### is_moment -/
def g_is_moment : Gs := gRet (gAndV (gCallN 1 f_is_whole_records (gCons (gVar 0) (gNil))) (gChain hLe hLe (gC (.int (0))) (gVar 0) (gC (.int (1000000000000000000000000000000)))))
def f_is_moment : List Dt → O Dt := fnN 1 g_is_moment
theorem ok_is_moment (t : Tx K mg) : FnOk P w K mg base CX0 2 t.a_is_moment t.d_is_moment ["thing"] (spG K mg 1 f_is_moment) := by
  obtain ⟨_, h_LAST_MOMENT⟩ := t.c_LAST_MOMENT
  have G_is_whole_records := ok_is_whole_records (P := P) (w := w) (base := base) t
  have nd : (["thing"] : List Str).Nodup := by decide +kernel
  exact fn_okN t.F_is_moment (Δn := [.im false]) sc_is_moment rfl rfl (by decide) fun cdv A outer s H E hr => ⟨_, BD.frm [.im false] (Δb := kd0 1 1 false) (Δc := kd0 1 1 false)
    (b_one (z_ret (x_and (x_callN G_is_whole_records (hr.mono (by decide)) t.m_is_whole_records t.F_is_whole_records.kp t.b_is_whole_records pass0 (AD.to true false (a_cons (x_var 0) (a_nil)))) (x_one (x_chain or_le or_le (x_int) (x_var 0) (x_glob (v := .int (1000000000000000000000000000000)) h_LAST_MOMENT ⟨_, rfl⟩ (.int _))))))) rfl⟩
/-! ### is_meeting -/
def g_is_meeting : Gs := gSeqS (gIfS (gOr (gNot (gTest (gUn (hIsa .tuple) (gVar 1)))) (gOr (gTest (gOp hNe (gCB hLen (gCons (gVar 1) (gNil))) (gC (.int (3))))) (gNot (gTest (gCallN 1 f_is_moment (gCons (gOp hIx (gVar 1) (gC (.int (0)))) (gNil))))))) (gRet (gC (.bool false))) (gNext)) (gRet (gAndV (gCallN 2 f_is_place (gCons (gVar 0) (gCons (gOp hIx (gVar 1) (gC (.int (1)))) (gNil)))) (gCallN 2 f_is_place (gCons (gVar 0) (gCons (gOp hIx (gVar 1) (gC (.int (2)))) (gNil))))))
def f_is_meeting : List Dt → O Dt := fnN 2 g_is_meeting
theorem ok_is_meeting (t : Tx K mg) : FnOk P w K mg base CX0 3 t.a_is_meeting t.d_is_meeting ["n", "thing"] (spG K mg 2 f_is_meeting) := by
  have G_is_moment := ok_is_moment (P := P) (w := w) (base := base) t
  have G_is_place := ok_is_place (P := P) (w := w) (base := base) t
  have nd : (["n", "thing"] : List Str).Nodup := by decide +kernel
  exact fn_okN t.F_is_meeting (Δn := [.im false, .im false]) sc_is_meeting rfl rfl (by decide) fun cdv A outer s H E hr => ⟨_, BD.frm [.im false, .im false] (Δb := kd0 2 2 false) (Δc := kd0 2 2 false)
    (b_cons (z_if (Δn := [.im false, .im false]) (c_w (w_or (c_not (c_val (x_isa .tuple t.n_isinstance t.n_tuple (x_var 1)))) (w_or (c_cmp (or_ne hr) (x_len t.n_len (AD.to true false (a_cons (x_var 1) (a_nil)))) (x_int)) (w_or1 (c_not (c_val (x_callN G_is_moment (hr.mono (by decide)) t.m_is_moment t.F_is_moment.kp t.b_is_moment pass0 (AD.to true false (a_cons (x_ix (x_var 1) (x_int)) (a_nil))))))))))
    (b_one (z_ret (x_bl)))
    ((b_nil).to [.im false, .im false]))
    (b_one (z_ret (x_and (x_callN G_is_place (hr.mono (by decide)) t.m_is_place t.F_is_place.kp t.b_is_place pass0 (AD.to true false (a_cons (x_var 0) (a_cons (x_ix (x_var 1) (x_int)) (a_nil))))) (x_one (x_callN G_is_place (hr.mono (by decide)) t.m_is_place t.F_is_place.kp t.b_is_place pass0 (AD.to true false (a_cons (x_var 0) (a_cons (x_ix (x_var 1) (x_int)) (a_nil)))))))))) rfl⟩
/-! ### record_of -/
def g_record_of_L1 : Gs := gTPut 3 (gC (.bool true)) (gCons (gVar 4) (gCons (gCB hMin2 (gCons (gVar 5) (gCons (gVar 6) (gNil)))) (gCons (gCB hMax2 (gCons (gVar 5) (gCons (gVar 6) (gNil)))) (gNil))))
def g_record_of_L2 : Gs := gIfS (gTest (gOp hEq (gOp hIx (gOp hIx (gVar 7) (gOp hSub (gVar 8) (gC (.int (1))))) (gC (.int (0)))) (gOp hIx (gOp hIx (gVar 7) (gVar 8)) (gC (.int (0)))))) (gBad) (gNext)
def g_record_of : Gs := gSeqS (gIfS (gNot (gTest (gCallN 1 f_is_many (gCons (gVar 0) (gNil))))) (gBad) (gNext)) (gSeqS (gIfS (gOr (gNot (gTest (gUn (hIsa .list) (gVar 1)))) (gNot (gTest (gCB hAll (gCons (gLc (gSeq (gVar 1)) (tgN 2) (gYes) (gCallN 2 f_is_meeting (gCons (gVar 0) (gCons (gVar 2) (gNil))))) (gNil)))))) (gBad) (gNext)) (gSeqS (gSet 3 (gDNew)) (gSeqS (gFor (gSeq (gVar 1)) (tgT (tgCons (tgN 4) (tgCons (tgN 5) (tgCons (tgN 6) (tgNil))))) g_record_of_L1) (gSeqS (gSet 7 (gCB (one hSortT) (gCons (gTKeys 3) (gNil)))) (gSeqS (gIfS (gTest (gOp hGt (gCB hLen (gCons (gVar 7) (gNil))) (gC (.int (60))))) (gBad) (gNext)) (gSeqS (gFor (gRng2 (gCons (gC (.int (1))) (gCons (gCB hLen (gCons (gVar 7) (gNil))) (gNil)))) (tgN 8) g_record_of_L2) (gRet (gVar 7))))))))
def f_record_of : List Dt → O Dt := fnL 9 g_record_of
theorem ok_record_of (t : Tx K mg) : FnOk P w K mg base CX0 4 t.a_record_of t.d_record_of ["n", "things"] (spL K mg 2 f_record_of) := by
  obtain ⟨_, h_MOST_TIES_records⟩ := t.c_MOST_TIES_records
  have G_is_many := ok_is_many (P := P) (w := w) (base := base) t
  have G_is_meeting := ok_is_meeting (P := P) (w := w) (base := base) t
  have nd : (["n", "things", "thing", "found", "moment", "a", "b", "ties", "at"] : List Str).Nodup := by decide +kernel
  exact fn_okL t.F_record_of (Δn := [.im false, .im false, .no, .no, .no, .no, .no, .no, .no]) sc_record_of rfl rfl (by decide) fun cdv A outer s H E hr => ⟨_, BD.frm [.im false, .im false, .no, .no, .no, .no, .no, .no, .no] (Δb := kd0 2 9 false) (Δc := kd0 2 9 false)
    (b_cons (z_if (Δn := [.im false, .im false, .no, .no, .no, .no, .no, .no, .no]) (c_not (c_val (x_callN G_is_many (hr.mono (by decide)) t.m_is_many t.F_is_many.kp t.b_is_many pass0 (AD.to true false (a_cons (x_var 0) (a_nil))))))
    (b_one (z_never))
    ((b_nil).to [.im false, .im false, .no, .no, .no, .no, .no, .no, .no]))
    (b_cons (z_if (Δn := [.im false, .im false, .no, .no, .no, .no, .no, .no, .no]) (c_w (w_or (c_not (c_val (x_isa .list t.n_isinstance t.n_list (x_var 1)))) (w_or1 (c_not (c_val (x_all t.n_all (AD.to true true (a_cons ((x_lc (n := 9) [("thing", 2)] nd (i_seq (x_var 1)) (blk_fx (N := ["n", "things", "thing", "found", "moment", "a", "b", "ties", "at"]) (sc := defScope st_record_of) (by decide +kernel)) (fun _ _ _ _ _ => g_name 2 nd) (fun _ _ _ _ _ => t_nil) (fun _ _ _ _ _ => x_callN G_is_meeting (hr.mono (by decide)) t.m_is_meeting t.F_is_meeting.kp t.b_is_meeting pass0 (AD.to true false (a_cons (x_var 0) (a_cons (x_var 2) (a_nil)))))).nv) (a_nil)))))))))
    (b_one (z_never))
    ((b_nil).to [.im false, .im false, .no, .no, .no, .no, .no, .no, .no]))
    (b_cons ((z_setO 3 nd (x_dnewT)).to [.im false, .im false, .no, .own .dt true, .no, .no, .no, .no, .no])
    (b_cons (z_for (n := 9) .never (i_seq (x_var 1)) (g_tup (m := 3) rfl (g_cons (g_name 4 nd) (g_cons (g_name 5 nd) (g_cons (g_name 6 nd) (g_nil)))) (tgCons_len (tgCons_len (tgCons_len tgNil_len))))
    ((b_one ((z_tput 3 hr (x_bl) (AD.to true false (a_cons (x_var 4) (a_cons (x_min2 t.n_min (AD.to true false (a_cons (x_var 5) (a_cons (x_var 6) (a_nil))))) (a_cons (x_max2 t.n_max (AD.to true false (a_cons (x_var 5) (a_cons (x_var 6) (a_nil))))) (a_nil)))))).to [.im false, .im false, .no, .own .dt true, .im false, .im false, .im false, .no, .no])).to [.im false, .im false, .no, .own .dt true, .no, .no, .no, .no, .no]))
    (b_cons ((z_setO 7 nd (x_sortT t.n_sorted (AD.to true true (a_cons ((x_tkeys 3 t.n_list).nv) (a_nil))))).to [.im false, .im false, .no, .own .dt true, .no, .no, .no, .own .l true, .no])
    (b_cons (z_if (Δn := [.im false, .im false, .no, .own .dt true, .no, .no, .no, .own .l true, .no]) (c_cmp or_gt (x_len t.n_len (AD.to false true (a_cons ((x_own 7).ov) (a_nil)))) (x_glob (v := .int (60)) h_MOST_TIES_records ⟨_, rfl⟩ (.int _)))
    (b_one (z_never))
    ((b_nil).to [.im false, .im false, .no, .own .dt true, .no, .no, .no, .own .l true, .no]))
    (b_cons (z_for (n := 9) .never (i_rng2 t.n_range (AD.to true true (a_cons (x_int) (a_cons (x_len t.n_len (AD.to false true (a_cons ((x_own 7).ov) (a_nil)))) (a_nil))))) (g_name 8 nd)
    ((b_one (z_if (Δn := [.im false, .im false, .no, .own .dt true, .no, .no, .no, .own .l true, .im true]) (c_cmp (or_eq hr) (x_ix (x_ixO (x_own 7) (x_sub (x_var 8) (x_int))) (x_int)) (x_ix (x_ixO (x_own 7) (x_var 8)) (x_int)))
    (b_one (z_never))
    ((b_nil).to [.im false, .im false, .no, .own .dt true, .no, .no, .no, .own .l true, .im true]))).to [.im false, .im false, .no, .own .dt true, .no, .no, .no, .own .l true, .no]))
    (b_one (z_retO 7))))))))) rfl⟩
/-! ### is_whole_orders -/
def g_is_whole_orders : Gs := gRet (gAndV (gUn (hIsa .int) (gVar 0)) (gNotV (gUn (hIsa .bool) (gVar 0))))
def f_is_whole_orders : List Dt → O Dt := fnN 1 g_is_whole_orders
theorem ok_is_whole_orders (t : Tx K mg) : FnOk P w K mg base CX0 1 t.a_is_whole_orders t.d_is_whole_orders ["thing"] (spG K mg 1 f_is_whole_orders) := by
  have nd : (["thing"] : List Str).Nodup := by decide +kernel
  exact fn_okN t.F_is_whole_orders (Δn := [.im false]) sc_is_whole_orders rfl rfl (by decide) fun cdv A outer s H E hr => ⟨_, BD.frm [.im false] (Δb := kd0 1 1 false) (Δc := kd0 1 1 false)
    (b_one (z_ret (x_and (x_isa .int t.n_isinstance t.n_int (x_var 0)) (x_one (x_not (x_isa .bool t.n_isinstance t.n_bool (x_var 0))))))) rfl⟩
/-! ### is_heavy_tie -/
def g_is_heavy_tie : Gs := gSeqS (gIfS (gOr (gNot (gTest (gUn (hIsa .tuple) (gVar 1)))) (gOr (gTest (gOp hNe (gCB hLen (gCons (gVar 1) (gNil))) (gC (.int (3))))) (gNot (gTest (gCB hAll (gCons (gLc (gSeq (gVar 1)) (tgN 2) (gYes) (gCallN 1 f_is_whole_orders (gCons (gVar 2) (gNil)))) (gNil))))))) (gRet (gC (.bool false))) (gNext)) (gRet (gAndV (gChain3 hLe hLt hLt (gC (.int (0))) (gOp hIx (gVar 1) (gC (.int (0)))) (gOp hIx (gVar 1) (gC (.int (1)))) (gVar 0)) (gChain hLe hLe (gC (.int (1))) (gOp hIx (gVar 1) (gC (.int (2)))) (gC (.int (1000000000000000000000000000000))))))
def f_is_heavy_tie : List Dt → O Dt := fnN 3 g_is_heavy_tie
theorem ok_is_heavy_tie (t : Tx K mg) : FnOk P w K mg base CX0 2 t.a_is_heavy_tie t.d_is_heavy_tie ["n", "thing"] (spG K mg 2 f_is_heavy_tie) := by
  obtain ⟨_, h_HEAVIEST⟩ := t.c_HEAVIEST
  have G_is_whole_orders := ok_is_whole_orders (P := P) (w := w) (base := base) t
  have nd : (["n", "thing", "part"] : List Str).Nodup := by decide +kernel
  exact fn_okN t.F_is_heavy_tie (Δn := [.im false, .im false, .no]) sc_is_heavy_tie rfl rfl (by decide) fun cdv A outer s H E hr => ⟨_, BD.frm [.im false, .im false, .no] (Δb := kd0 2 3 false) (Δc := kd0 2 3 false)
    (b_cons (z_if (Δn := [.im false, .im false, .no]) (c_w (w_or (c_not (c_val (x_isa .tuple t.n_isinstance t.n_tuple (x_var 1)))) (w_or (c_cmp (or_ne hr) (x_len t.n_len (AD.to true false (a_cons (x_var 1) (a_nil)))) (x_int)) (w_or1 (c_not (c_val (x_all t.n_all (AD.to true true (a_cons ((x_lc (n := 3) [("part", 2)] nd (i_seq (x_var 1)) (blk_fx (N := ["n", "thing", "part"]) (sc := defScope st_is_heavy_tie) (by decide +kernel)) (fun _ _ _ _ _ => g_name 2 nd) (fun _ _ _ _ _ => t_nil) (fun _ _ _ _ _ => x_callN G_is_whole_orders (hr.mono (by decide)) t.m_is_whole_orders t.F_is_whole_orders.kp t.b_is_whole_orders pass0 (AD.to true false (a_cons (x_var 2) (a_nil))))).nv) (a_nil))))))))))
    (b_one (z_ret (x_bl)))
    ((b_nil).to [.im false, .im false, .no]))
    (b_one (z_ret (x_and (x_chain3 or_le or_lt or_lt (x_int) (x_ix (x_var 1) (x_int)) (x_ix (x_var 1) (x_int)) (x_var 0)) (x_one (x_chain or_le or_le (x_int) (x_ix (x_var 1) (x_int)) (x_glob (v := .int (1000000000000000000000000000000)) h_HEAVIEST ⟨_, rfl⟩ (.int _)))))))) rfl⟩
/-! ### look_at_heavy -/
def g_look_at_heavy : Gs := gSeqS (gDrop (gCallN 2 f_record_of (gCons (gVar 0) (gCons (gLst (gNil)) (gNil))))) (gSeqS (gIfS (gOr (gNot (gTest (gUn (hIsa .list) (gVar 1)))) (gTest (gOp hGt (gCB hLen (gCons (gVar 1) (gNil))) (gC (.int (40)))))) (gBad) (gNext)) (gIfS (gNot (gTest (gCB hAll (gCons (gLc (gSeq (gVar 1)) (tgN 2) (gYes) (gCallN 2 f_is_heavy_tie (gCons (gVar 0) (gCons (gVar 2) (gNil))))) (gNil))))) (gBad) (gNext)))
def f_look_at_heavy : List Dt → O Dt := fnN 3 g_look_at_heavy
theorem ok_look_at_heavy (t : Tx K mg) : FnOk P w K mg base CX0 5 t.a_look_at_heavy t.d_look_at_heavy ["n", "heavy"] (spG K mg 2 f_look_at_heavy) := by
  obtain ⟨_, h_MOST_TIES_orders⟩ := t.c_MOST_TIES_orders
  have G_record_of := ok_record_of (P := P) (w := w) (base := base) t
  have G_is_heavy_tie := ok_is_heavy_tie (P := P) (w := w) (base := base) t
  have nd : (["n", "heavy", "tie"] : List Str).Nodup := by decide +kernel
  exact fn_okN t.F_look_at_heavy (Δn := [.im false, .im false, .no]) sc_look_at_heavy rfl rfl (by decide) fun cdv A outer s H E hr => ⟨_, BD.frm [.im false, .im false, .no] (Δb := kd0 2 3 false) (Δc := kd0 2 3 false)
    (BD.to [.im false, .im false, .no] (b_cons ((z_expr (x_callL G_record_of (hr.mono (by decide)) t.m_record_of t.F_record_of.kp t.b_record_of pass0 (AD.to true false (a_cons (x_var 0) (a_cons ((x_lst (a_nil)).nv) (a_nil)))))).to [.im false, .im false, .no])
    (b_cons (z_if (Δn := [.im false, .im false, .no]) (c_w (w_or (c_not (c_val (x_isa .list t.n_isinstance t.n_list (x_var 1)))) (w_or1 (c_cmp or_gt (x_len t.n_len (AD.to true false (a_cons (x_var 1) (a_nil)))) (x_glob (v := .int (40)) h_MOST_TIES_orders ⟨_, rfl⟩ (.int _))))))
    (b_one (z_never))
    ((b_nil).to [.im false, .im false, .no]))
    (b_one (z_if (Δn := [.im false, .im false, .no]) (c_not (c_val (x_all t.n_all (AD.to true true (a_cons ((x_lc (n := 3) [("tie", 2)] nd (i_seq (x_var 1)) (blk_fx (N := ["n", "heavy", "tie"]) (sc := defScope st_look_at_heavy) (by decide +kernel)) (fun _ _ _ _ _ => g_name 2 nd) (fun _ _ _ _ _ => t_nil) (fun _ _ _ _ _ => x_callN G_is_heavy_tie (hr.mono (by decide)) t.m_is_heavy_tie t.F_is_heavy_tie.kp t.b_is_heavy_tie pass0 (AD.to true false (a_cons (x_var 0) (a_cons (x_var 2) (a_nil)))))).nv) (a_nil))))))
    (b_one (z_never))
    ((b_nil).to [.im false, .im false, .no])))))) rfl⟩
/-! ### next_place -/
def g_next_place_L1 : Gs := gIfS (gTest (gOp hGt (gOp hIx (gVar 0) (gVar 3)) (gOp hIx (gVar 0) (gVar 2)))) (gSet 2 (gVar 3)) (gNext)
def g_next_place : Gs := gSeqS (gSet 2 (gOp hIx (gVar 1) (gC (.int (0))))) (gSeqS (gFor (gSeq (gVar 1)) (tgN 3) g_next_place_L1) (gRet (gPur (gVar 2))))
def f_next_place : List Dt → O Dt := fnN 4 g_next_place
theorem ok_next_place (t : Tx K mg) : FnOk P w K mg base CX0 1 t.a_next_place t.d_next_place ["weights", "left"] (spG K mg 2 f_next_place) := by
  have nd : (["weights", "left", "best", "place"] : List Str).Nodup := by decide +kernel
  exact fn_okN t.F_next_place (Δn := [.im false, .im false, .no, .no]) sc_next_place rfl rfl (by decide) fun cdv A outer s H E hr => ⟨_, BD.frm [.im false, .im false, .no, .no] (Δb := kd0 2 4 false) (Δc := kd0 2 4 false)
    (b_cons ((z_set 2 nd (x_ix (x_var 1) (x_int))).to [.im false, .im false, .im false, .no])
    (b_cons (z_for (n := 4) .never (i_seq (x_var 1)) (g_name 3 nd)
    ((b_one (z_if (Δn := [.im false, .im false, .im false, .im false]) (c_cmp or_gt (x_ix (x_var 0) (x_var 3)) (x_ix (x_var 0) (x_var 2)))
    ((b_one ((z_set 2 nd (x_var 3)).to [.im false, .im false, .im false, .im false])).to [.im false, .im false, .im false, .im false])
    ((b_nil).to [.im false, .im false, .im false, .im false]))).to [.im false, .im false, .im false, .no]))
    (b_one (z_ret (PD.pur (x_var 2)))))) rfl⟩
/-! ### order -/
def g_order_L1 : Gs := gSeqS (gIfS (gTest (gOp hEq (gVar 7) (gVar 6))) (gAugI (fun i j => i + j) 3 (gVar 9) (gVar 8)) (gNext)) (gIfS (gTest (gOp hEq (gVar 8) (gVar 6))) (gAugI (fun i j => i + j) 3 (gVar 9) (gVar 7)) (gNext))
def g_order_L2 : Gs := gSeqS (gIfS (gTest (gOp hGt (gCB hLen (gCons (gVar 4) (gNil))) (gC (.int (0))))) (gSet 6 (gCallN 2 f_next_place (gCons (gVar 3) (gCons (gVar 5) (gNil))))) (gNext)) (gSeqS (gApp 4 (gVar 6)) (gSeqS (gRem 5 (gVar 6)) (gFor (gSeq (gVar 1)) (tgT (tgCons (tgN 7) (tgCons (tgN 8) (tgCons (tgN 9) (tgNil))))) g_order_L1)))
def g_order_T2 : List Dt → O Bool := gTest (gOp hGt (gCB hLen (gCons (gVar 5) (gNil))) (gC (.int (0))))
def g_order : Gs := gSeqS (gDrop (gCallN 2 f_look_at_heavy (gCons (gVar 0) (gCons (gVar 1) (gNil))))) (gSeqS (gIfS (gOr (gNot (gTest (gCallN 1 f_is_whole_orders (gCons (gVar 2) (gNil))))) (gNot (gTest (gChain hLe hLt (gC (.int (0))) (gVar 2) (gVar 0))))) (gBad) (gNext)) (gSeqS (gSet 3 (gOp hRep (gLst (gCons (gC (.int (0))) (gNil))) (gVar 0))) (gSeqS (gSet 4 (gLst (gNil))) (gSeqS (gSet 5 (gLsI (gRng1 (gCons (gVar 0) gNil)))) (gSeqS (gSet 6 (gVar 2)) (gSeqS (gWhile g_order_T2 g_order_L2 100) (gRet (gPurV 4))))))))
def f_order : List Dt → O Dt := fnL 10 g_order
theorem ok_order (t : Tx K mg) : FnOk P w K mg base CX0 6 t.a_order t.d_order ["n", "heavy", "first"] (spL K mg 3 f_order) := by
  have G_look_at_heavy := ok_look_at_heavy (P := P) (w := w) (base := base) t
  have G_is_whole_orders := ok_is_whole_orders (P := P) (w := w) (base := base) t
  have G_next_place := ok_next_place (P := P) (w := w) (base := base) t
  have nd : (["n", "heavy", "first", "weights", "found", "left", "place", "a", "b", "weight"] : List Str).Nodup := by decide +kernel
  exact fn_okLD t.F_order (Δn := [.im false, .im false, .im false, .no, .no, .no, .no, .no, .no, .no]) sc_order rfl rfl (by decide) fun cdv A outer s H E hr => ⟨_, BD.frm [.im false, .im false, .im false, .no, .no, .no, .no, .no, .no, .no] (Δb := kd0 3 10 false) (Δc := kd0 3 10 false)
    (b_cons ((z_expr (x_callN G_look_at_heavy (hr.mono (by decide)) t.m_look_at_heavy t.F_look_at_heavy.kp t.b_look_at_heavy pass0 (AD.to true false (a_cons (x_var 0) (a_cons (x_var 1) (a_nil)))))).to [.im false, .im false, .im false, .no, .no, .no, .no, .no, .no, .no])
    (b_cons (z_if (Δn := [.im false, .im false, .im false, .no, .no, .no, .no, .no, .no, .no]) (c_w (w_or (c_not (c_val (x_callN G_is_whole_orders (hr.mono (by decide)) t.m_is_whole_orders t.F_is_whole_orders.kp t.b_is_whole_orders pass0 (AD.to true false (a_cons (x_var 2) (a_nil)))))) (w_or1 (c_not (c_chain or_le or_lt (x_int) (x_var 2) (x_var 0))))))
    (b_one (z_never))
    ((b_nil).to [.im false, .im false, .im false, .no, .no, .no, .no, .no, .no, .no]))
    (b_cons ((z_setO 3 nd (x_rep (x_lst (AD.to true true (a_cons (x_int) (a_nil)))) (x_var 0))).to [.im false, .im false, .im false, .own .l true, .no, .no, .no, .no, .no, .no])
    (b_cons ((z_setO 4 nd (x_lst (a_nil))).to [.im false, .im false, .im false, .own .l true, .own .l true, .no, .no, .no, .no, .no])
    (b_cons ((z_setO 5 nd (x_lrng1 t.n_list t.n_range (x_var 0))).to [.im false, .im false, .im false, .own .l true, .own .l true, .own .l true, .no, .no, .no, .no])
    (b_cons ((z_set 6 nd (x_var 2)).to [.im false, .im false, .im false, .own .l true, .own .l true, .own .l true, .im false, .no, .no, .no])
    (b_cons (SD.frm [.im false, .im false, .im false, .own .l true, .own .l false, .own .l true, .im false, .no, .no, .no] (z_while 100 .never (c_cmp or_gt (x_len t.n_len (AD.to false true (a_cons ((x_own 5).ov) (a_nil)))) (x_int))
    ((b_cons (z_if (Δn := [.im false, .im false, .im false, .own .l true, .own .l false, .own .l true, .im false, .no, .no, .no]) (c_cmp or_gt (x_len t.n_len (AD.to false false (a_cons ((x_own 4).ov) (a_nil)))) (x_int))
    ((b_one ((z_set 6 nd (x_callN G_next_place (hr.mono (by decide)) t.m_next_place t.F_next_place.kp t.b_next_place pass0 (AD.to false true (a_cons ((x_own 3).ov) (a_cons ((x_own 5).ov) (a_nil)))))).to [.im false, .im false, .im false, .own .l true, .own .l false, .own .l true, .im true, .no, .no, .no])).to [.im false, .im false, .im false, .own .l true, .own .l false, .own .l true, .im false, .no, .no, .no])
    ((b_nil).to [.im false, .im false, .im false, .own .l true, .own .l false, .own .l true, .im false, .no, .no, .no]))
    (b_cons ((z_app 4 (x_var 6)).to [.im false, .im false, .im false, .own .l true, .own .l false, .own .l true, .im false, .no, .no, .no])
    (b_cons ((z_rem 5 (x_var 6)).to [.im false, .im false, .im false, .own .l true, .own .l false, .own .l true, .im false, .no, .no, .no])
    (b_one (z_for (n := 10) .never (i_seq (x_var 1)) (g_tup (m := 3) rfl (g_cons (g_name 7 nd) (g_cons (g_name 8 nd) (g_cons (g_name 9 nd) (g_nil)))) (tgCons_len (tgCons_len (tgCons_len tgNil_len))))
    ((b_cons (z_if (Δn := [.im false, .im false, .im false, .own .l true, .own .l false, .own .l true, .im false, .im false, .im false, .im false]) (c_cmp (or_eq hr) (x_var 7) (x_var 6))
    ((b_one ((z_augI 3 (x_var 9) (x_var 8)).to [.im false, .im false, .im false, .own .l true, .own .l false, .own .l true, .im false, .im false, .im false, .im false])).to [.im false, .im false, .im false, .own .l true, .own .l false, .own .l true, .im false, .im false, .im false, .im false])
    ((b_nil).to [.im false, .im false, .im false, .own .l true, .own .l false, .own .l true, .im false, .im false, .im false, .im false]))
    (b_one (z_if (Δn := [.im false, .im false, .im false, .own .l true, .own .l false, .own .l true, .im false, .im false, .im false, .im false]) (c_cmp (or_eq hr) (x_var 8) (x_var 6))
    ((b_one ((z_augI 3 (x_var 9) (x_var 7)).to [.im false, .im false, .im false, .own .l true, .own .l false, .own .l true, .im false, .im false, .im false, .im false])).to [.im false, .im false, .im false, .own .l true, .own .l false, .own .l true, .im false, .im false, .im false, .im false])
    ((b_nil).to [.im false, .im false, .im false, .own .l true, .own .l false, .own .l true, .im false, .im false, .im false, .im false])))).to [.im false, .im false, .im false, .own .l true, .own .l false, .own .l true, .im false, .no, .no, .no])))))).to [.im false, .im false, .im false, .own .l true, .own .l false, .own .l true, .im false, .no, .no, .no])))
    (b_one (z_retOp 4))))))))) rfl⟩
theorem bD_order (t : Tx K mg) : ∃ ds, Vals [V.int (0)] ds ∧ Binds K t.d_order ["n", "heavy", "first"] ds := FunD.binds1 t.F_order 2 0 (fun z => nomatch z) rfl fun T kV doc pm an cdv ct us its h1 h2 => match us, h1, its, h2 with | [_, _], _, [_], _ => ⟨_, rfl, rfl⟩
theorem bK_order (t : Tx K mg) : KBn K t.d_order ["n", "heavy", "first"] 2 ["first"] (fun us ws => us ++ ws) (fun vs zs => vs ++ zs) := kbn2 t.F_order 2 ["first"] (fun z => nomatch z) fun T kV doc pm an cdv ct us its ws h1 h2 h3 => match us, h1, its, h2, ws, h3 with | [_, _], _, [_], _, [_], _ => ⟨_, rfl, rfl⟩
/-! ### bands -/
def g_bands_L1 : Gs := gIfS (gTest (gOp hEq (gCB (one hSorted) (gCons (gLst (gCons (gVar 8) (gCons (gVar 9) (gNil)))) (gNil))) (gCB (one hSorted) (gCons (gLst (gCons (gVar 6) (gCons (gOp hIx (gVar 2) (gVar 4)) (gNil)))) (gNil))))) (gSeqS (gSetI 3 (gTup (gCons (gVar 5) (gCons (gOp hAdd (gVar 5) (gVar 10)) (gNil)))) (gVar 7)) (gAug (fun i j => i + j) 5 (gVar 10))) (gNext)
def g_bands_L2 : Gs := gFor (gEnum (gCons (gVar 1) (gNil))) (tgT (tgCons (tgN 7) (tgCons (tgT (tgCons (tgN 8) (tgCons (tgN 9) (tgCons (tgN 10) (tgNil))))) (tgNil)))) g_bands_L1
def g_bands_L3 : Gs := gSeqS (gSet 5 (gC (.int (0)))) (gFor (gSeq (gSl hSl (gVar 2) (gNoPart) (gPart (gVar 4)))) (tgN 6) g_bands_L2)
def g_bands : Gs := gSeqS (gDrop (gCallN 2 f_look_at_heavy (gCons (gVar 0) (gCons (gVar 1) (gNil))))) (gSeqS (gSet 3 (gOp hRep (gLst (gCons (gTup (gCons (gC (.int (0))) (gCons (gC (.int (0))) (gNil)))) (gNil))) (gCB hLen (gCons (gVar 1) (gNil))))) (gSeqS (gFor (gRng1 (gCons (gCB hLen (gCons (gVar 2) (gNil))) (gNil))) (tgN 4) g_bands_L3) (gRet (gVar 3))))
def f_bands : List Dt → O Dt := fnL 11 g_bands
theorem ok_bands (t : Tx K mg) : FnOk P w K mg base CX0 6 t.a_bands t.d_bands ["n", "heavy", "row"] (spL K mg 3 f_bands) := by
  have G_look_at_heavy := ok_look_at_heavy (P := P) (w := w) (base := base) t
  have nd : (["n", "heavy", "row", "found", "at", "low", "ahead", "k", "a", "b", "weight"] : List Str).Nodup := by decide +kernel
  exact fn_okL t.F_bands (Δn := [.im false, .im false, .im false, .no, .no, .no, .no, .no, .no, .no, .no]) sc_bands rfl rfl (by decide) fun cdv A outer s H E hr => ⟨_, BD.frm [.im false, .im false, .im false, .no, .no, .no, .no, .no, .no, .no, .no] (Δb := kd0 3 11 false) (Δc := kd0 3 11 false)
    (b_cons ((z_expr (x_callN G_look_at_heavy (hr.mono (by decide)) t.m_look_at_heavy t.F_look_at_heavy.kp t.b_look_at_heavy pass0 (AD.to true false (a_cons (x_var 0) (a_cons (x_var 1) (a_nil)))))).to [.im false, .im false, .im false, .no, .no, .no, .no, .no, .no, .no, .no])
    (b_cons ((z_setO 3 nd (x_rep (x_lst (AD.to true true (a_cons (x_tup (AD.to true true (a_cons (x_int) (a_cons (x_int) (a_nil))))) (a_nil)))) (x_len t.n_len (AD.to true false (a_cons (x_var 1) (a_nil)))))).to [.im false, .im false, .im false, .own .l true, .no, .no, .no, .no, .no, .no, .no])
    (b_cons (z_for (n := 11) .never (i_rng1 t.n_range (AD.to true true (a_cons (x_len t.n_len (AD.to true false (a_cons (x_var 2) (a_nil)))) (a_nil)))) (g_name 4 nd)
    ((b_cons ((z_set 5 nd (x_int)).to [.im false, .im false, .im false, .own .l true, .im true, .im true, .no, .no, .no, .no, .no])
    (b_one (z_for (n := 11) .never (i_seq ((x_sl (x_var 2) (o_none) (o_some (x_var 4))).nv)) (g_name 6 nd)
    ((b_one (z_for (n := 11) .never (i_enum t.n_enumerate (AD.to true false (a_cons (x_var 1) (a_nil)))) (g_tup (m := 2) rfl (g_cons (g_name 7 nd) (g_cons (g_tup (m := 3) rfl (g_cons (g_name 8 nd) (g_cons (g_name 9 nd) (g_cons (g_name 10 nd) (g_nil)))) (tgCons_len (tgCons_len (tgCons_len tgNil_len)))) (g_nil))) (tgCons_len (tgCons_len tgNil_len)))
    ((b_one (z_if (Δn := [.im false, .im false, .im false, .own .l true, .im true, .im true, .im false, .im false, .im false, .im false, .im false]) (c_cmp (or_eq hr) ((x_sorted t.n_sorted (AD.to true false (a_cons ((x_lst (AD.to true false (a_cons (x_var 8) (a_cons (x_var 9) (a_nil))))).nv) (a_nil)))).nv) ((x_sorted t.n_sorted (AD.to true false (a_cons ((x_lst (AD.to true false (a_cons (x_var 6) (a_cons (x_ix (x_var 2) (x_var 4)) (a_nil))))).nv) (a_nil)))).nv))
    ((b_cons ((z_setI 3 (x_tup (AD.to true true (a_cons (x_var 5) (a_cons (x_add (x_var 5) (x_var 10)) (a_nil))))) (x_var 7)).to [.im false, .im false, .im false, .own .l true, .im true, .im true, .im false, .im false, .im false, .im false, .im false])
    (b_one ((z_augA 5 nd (x_var 10)).to [.im false, .im false, .im false, .own .l true, .im true, .im true, .im false, .im false, .im false, .im false, .im false]))).to [.im false, .im false, .im false, .own .l true, .im true, .im true, .im false, .im false, .im false, .im false, .im false])
    ((b_nil).to [.im false, .im false, .im false, .own .l true, .im true, .im true, .im false, .im false, .im false, .im false, .im false]))).to [.im false, .im false, .im false, .own .l true, .im true, .im true, .im false, .no, .no, .no, .no]))).to [.im false, .im false, .im false, .own .l true, .im true, .im true, .no, .no, .no, .no, .no])))).to [.im false, .im false, .im false, .own .l true, .no, .no, .no, .no, .no, .no, .no]))
    (b_one (z_retO 3))))) rfl⟩
/-! ### heads -/
def g_heads : Gs := gRet (gLc (gSeq (gVar 0)) (tgT (tgCons (tgN 2) (tgCons (tgN 3) (tgNil)))) (gYes) (gCB hMax2 (gCons (gC (.int (0))) (gCons (gOp hSub (gCB hMin2 (gCons (gVar 3) (gCons (gVar 1) (gNil)))) (gVar 2)) (gNil)))))
def f_heads : List Dt → O Dt := fnL 4 g_heads
theorem ok_heads (t : Tx K mg) : FnOk P w K mg base CX0 1 t.a_heads t.d_heads ["some", "number"] (spL K mg 2 f_heads) := by
  have nd : (["some", "number", "low", "high"] : List Str).Nodup := by decide +kernel
  exact fn_okL t.F_heads (Δn := [.im false, .im false, .no, .no]) sc_heads rfl rfl (by decide) fun cdv A outer s H E hr => ⟨_, BD.frm [.im false, .im false, .no, .no] (Δb := kd0 2 4 false) (Δc := kd0 2 4 false)
    (b_one (z_retL (x_lc (n := 4) [("low", 2), ("high", 3)] nd (i_seq (x_var 0)) (blk_fx (N := ["some", "number", "low", "high"]) (sc := defScope st_heads) (by decide +kernel)) (fun _ _ _ _ _ => g_tup (m := 2) rfl (g_cons (g_name 2 nd) (g_cons (g_name 3 nd) (g_nil))) (tgCons_len (tgCons_len tgNil_len))) (fun _ _ _ _ _ => t_nil) (fun _ _ _ _ _ => x_max2 t.n_max (AD.to true true (a_cons (x_int) (a_cons (x_sub (x_min2 t.n_min (AD.to true false (a_cons (x_var 3) (a_cons (x_var 1) (a_nil))))) (x_var 2)) (a_nil)))))))) rfl⟩
/-! ### _law_cell_at -/
def g_l_cell_at : Gs := gSeqS (gIfS (gTest (gOp hLt (gVar 1) (gCB hLen (gCons (gVar 0) (gNil))))) (gRet (gPur (gOp hIx (gVar 0) (gVar 1)))) (gNext)) (gRet (gC (.int (0))))
def f_l_cell_at : List Dt → O Dt := fnN 2 g_l_cell_at
theorem ok_l_cell_at (t : Tx K mg) : FnOk P w K mg base CX0 1 t.a_l_cell_at t.d_l_cell_at ["script", "k"] (spG K mg 2 f_l_cell_at) := by
  have nd : (["script", "k"] : List Str).Nodup := by decide +kernel
  exact fn_okN t.F_l_cell_at (Δn := [.im false, .im false]) sc_l_cell_at rfl rfl (by decide) fun cdv A outer s H E hr => ⟨_, BD.frm [.im false, .im false] (Δb := kd0 2 2 false) (Δc := kd0 2 2 false)
    (b_cons (z_if (Δn := [.im false, .im false]) (c_cmp or_lt (x_var 1) (x_len t.n_len (AD.to true false (a_cons (x_var 0) (a_nil)))))
    (b_one (z_ret (PD.pur (x_ix (x_var 0) (x_var 1)))))
    ((b_nil).to [.im false, .im false]))
    (b_one (z_ret (x_int)))) rfl⟩
/-! ### _law_pool -/
def g_l_pool_L1 : Gs := gSeqS (gSet 5 (gOp hMod (gOp hMulW (gOp hAdd (gOp hAdd (gOp hAdd (gOp hMod (gVar 2) (gC (.int (998244353)))) (gOp hMulW (gOp hMulW (gC (.int (89))) (gVar 4)) (gVar 4))) (gOp hMulW (gC (.int (7))) (gVar 1))) (gC (.int (1)))) (gC (.int (48271)))) (gC (.int (2147483647))))) (gSeqS (gSet 5 (gOp hMod (gOp hMulW (gVar 5) (gVar 5)) (gC (.int (1000000007))))) (gSeqS (gSet 5 (gOp hMod (gOp hMulW (gOp hAdd (gVar 5) (gOp hMulW (gC (.int (7919))) (gVar 4))) (gC (.int (69621)))) (gC (.int (2147483587))))) (gSet 3 (gOp hAdd (gOp hMulW (gVar 3) (gC (.int (1000003)))) (gOp hMod (gOp hDiv (gVar 5) (gC (.int (8)))) (gC (.int (1000003))))))))
def g_l_pool : Gs := gSeqS (gSet 2 (gCallN 2 f_l_cell_at (gCons (gVar 0) (gCons (gVar 1) (gNil))))) (gSeqS (gIfS (gTest (gOp hGe (gVar 2) (gOp hPow (gC (.int (10))) (gC (.int (18)))))) (gRet (gLst (gCons (gVar 2) (gNil)))) (gNext)) (gSeqS (gSet 3 (gC (.int (0)))) (gSeqS (gFor (gRng1 (gCons (gC (.int (48))) (gNil))) (tgN 4) g_l_pool_L1) (gRet (gLst (gCons (gVar 3) (gNil)))))))
def f_l_pool : List Dt → O Dt := fnL 6 g_l_pool
theorem ok_l_pool (t : Tx K mg) : FnOk P w K mg base CX0 2 t.a_l_pool t.d_l_pool ["script", "at"] (spL K mg 2 f_l_pool) := by
  have G_l_cell_at := ok_l_cell_at (P := P) (w := w) (base := base) t
  have nd : (["script", "at", "cell", "big", "turn", "one"] : List Str).Nodup := by decide +kernel
  exact fn_okL t.F_l_pool (Δn := [.im false, .im false, .no, .no, .no, .no]) sc_l_pool rfl rfl (by decide) fun cdv A outer s H E hr => ⟨_, BD.frm [.im false, .im false, .no, .no, .no, .no] (Δb := kd0 2 6 false) (Δc := kd0 2 6 false)
    (b_cons ((z_set 2 nd (x_callN G_l_cell_at (hr.mono (by decide)) t.m_l_cell_at t.F_l_cell_at.kp t.b_l_cell_at pass0 (AD.to true false (a_cons (x_var 0) (a_cons (x_var 1) (a_nil)))))).to [.im false, .im false, .im true, .no, .no, .no])
    (b_cons (z_if (Δn := [.im false, .im false, .im true, .no, .no, .no]) (c_cmp or_ge (x_var 2) (x_pow (x_int) (x_int)))
    (b_one (z_retL (x_lst (AD.to true true (a_cons (x_var 2) (a_nil))))))
    ((b_nil).to [.im false, .im false, .im true, .no, .no, .no]))
    (b_cons ((z_set 3 nd (x_int)).to [.im false, .im false, .im true, .im true, .no, .no])
    (b_cons (z_for (n := 6) .never (i_rng1 t.n_range (AD.to true true (a_cons (x_int) (a_nil)))) (g_name 4 nd)
    ((b_cons ((z_set 5 nd (x_mod (x_mulW (x_add (x_add (x_add (x_mod (x_var 2) (x_int)) (x_mulW (x_mulW (x_int) (x_var 4)) (x_var 4))) (x_mulW (x_int) (x_var 1))) (x_int)) (x_int)) (x_int))).to [.im false, .im false, .im true, .im true, .im true, .im true])
    (b_cons ((z_set 5 nd (x_mod (x_mulW (x_var 5) (x_var 5)) (x_int))).to [.im false, .im false, .im true, .im true, .im true, .im true])
    (b_cons ((z_set 5 nd (x_mod (x_mulW (x_add (x_var 5) (x_mulW (x_int) (x_var 4))) (x_int)) (x_int))).to [.im false, .im false, .im true, .im true, .im true, .im true])
    (b_one ((z_set 3 nd (x_add (x_mulW (x_var 3) (x_int)) (x_mod (x_div (x_var 5) (x_int)) (x_int)))).to [.im false, .im false, .im true, .im true, .im true, .im true]))))).to [.im false, .im false, .im true, .im true, .no, .no]))
    (b_one (z_retL (x_lst (AD.to true true (a_cons (x_var 3) (a_nil)))))))))) rfl⟩
/-! ### _law_take -/
def g_l_take : Gs := gSeqS (gSet 2 (gOp hMod (gOp hIx (gVar 0) (gC (.int (0)))) (gVar 1))) (gSeqS (gSetI 0 (gOp hDiv (gOp hIx (gVar 0) (gC (.int (0)))) (gVar 1)) (gC (.int (0)))) (xRetM (xP (gVar 2))))
def f_l_take : List Dt → O Dt := fnN 3 g_l_take
theorem ok_l_take (t : Tx K mg) : FnOk P w K mg base CX0 1 t.a_l_take t.d_l_take ["pool", "many"] (spM K .la 2 f_l_take) := by
  have nd : (["pool", "many", "number"] : List Str).Nodup := by decide +kernel
  exact fn_okM t.F_l_take (Δn := [.own .la true, .im false, .no]) sc_l_take rfl rfl (by decide) rfl fun cdv A outer s H E hr => ⟨_, BD.frm [.own .la true, .im false, .no] (Δb := kdM .la 2 3) (Δc := kdM .la 2 3)
    (b_cons ((z_set 2 nd (x_mod (x_ixO (x_ownA 0) (x_int)) (x_var 1))).to [.own .la true, .im false, .im true])
    (b_cons ((z_setIA 0 (x_div (x_ixO (x_ownA 0) (x_int)) (x_var 1)) (x_int)).to [.own .la true, .im false, .im true])
    (b_one (zx_retM (xd_of (x_var 2)))))) rfl⟩
/-! ### _law_heavy -/
def g_l_heavy_L1 : Gs := gSeqS (xSet 6 (xCallM .la 2 f_l_take 0 (xCons (xP (gVar 1)) (xNil)))) (gSeqS (xSet 7 (xOp hMod (xOp hAdd (xP (gOp hAdd (gVar 6) (gC (.int (1))))) (xCallM .la 2 f_l_take 0 (xCons (xP (gOp hSub (gVar 1) (gC (.int (1))))) (xNil)))) (xP (gVar 1)))) (gSeqS (xIfS (xAnd (xPT (gTest (gOp hEq (gVar 3) (gC (.int (3)))))) (xTest (xOp hEq (xCallM .la 2 f_l_take 0 (xCons (xP (gC (.int (2)))) (xNil))) (xP (gC (.int (0))))))) (gSet 7 (gOp hMod (gOp hAdd (gVar 6) (gC (.int (1)))) (gVar 1))) (gNext)) (gSeqS (xSet 8 (xOp hAdd (xP (gC (.int (1)))) (xCallM .la 2 f_l_take 0 (xCons (xP (gOp hIx (gLst (gCons (gC (.int (1))) (gCons (gC (.int (3))) (gCons (gC (.int (9))) (gCons (gC (.int (1000))) (gNil)))))) (gVar 3))) (xNil))))) (gSeqS (gIfS (gTest (gOp hEq (gVar 3) (gC (.int (3))))) (xSet 8 (xOp hSub (xP (gOp hMul (gVar 8) (gOp hPow (gC (.int (10))) (gC (.int (27)))))) (xCallM .la 2 f_l_take 0 (xCons (xP (gC (.int (3)))) (xNil))))) (gNext)) (gApp 4 (gTup (gCons (gCB hMin2 (gCons (gVar 6) (gCons (gVar 7) (gNil)))) (gCons (gCB hMax2 (gCons (gVar 6) (gCons (gVar 7) (gNil)))) (gCons (gVar 8) (gNil))))))))))
def g_l_heavy : Gs := gSeqS (xSet 3 (xCallM .la 2 f_l_take 0 (xCons (xP (gC (.int (4)))) (xNil)))) (gSeqS (gSet 4 (gLst (gNil))) (gSeqS (gIfS (gTest (gOp hLt (gVar 1) (gC (.int (2))))) (xRetMO 4) (gNext)) (gSeqS (xFor (xRng1 (xCons (xCallM .la 2 f_l_take 0 (xCons (xP (gOp hAdd (gVar 2) (gC (.int (1))))) (xNil))) (xNil))) (tgN 5) g_l_heavy_L1) (xRetMO 4))))
def f_l_heavy : List Dt → O Dt := fnL 9 g_l_heavy
theorem ok_l_heavy (t : Tx K mg) : FnOk P w K mg base CX0 2 t.a_l_heavy t.d_l_heavy ["pool", "n", "most"] (spML K .la 3 f_l_heavy) := by
  have G_l_take := ok_l_take (P := P) (w := w) (base := base) t
  have nd : (["pool", "n", "most", "sort", "heavy", "k", "a", "b", "weight"] : List Str).Nodup := by decide +kernel
  exact fn_okML t.F_l_heavy (Δn := [.own .la true, .im false, .im false, .no, .no, .no, .no, .no, .no]) sc_l_heavy rfl rfl (by decide) rfl fun cdv A outer s H E hr => ⟨_, BD.frm [.own .la true, .im false, .im false, .no, .no, .no, .no, .no, .no] (Δb := kdM .la 3 9) (Δc := kdM .la 3 9)
    (b_cons ((zx_set 3 nd (xd_callM 0 G_l_take (hr.mono (by decide)) t.m_l_take t.F_l_take.kp t.b_l_take pass0 (xb_a (XAD.to true true (xa_cons (xd_of (x_int)) (xa_nil)))))).to [.own .la true, .im false, .im false, .im true, .no, .no, .no, .no, .no])
    (b_cons ((z_setO 4 nd (x_lst (a_nil))).to [.own .la true, .im false, .im false, .im true, .own .l true, .no, .no, .no, .no])
    (b_cons (z_if (Δn := [.own .la true, .im false, .im false, .im true, .own .l true, .no, .no, .no, .no]) (c_cmp or_lt (x_var 1) (x_int))
    (b_one (zx_retMO 4))
    ((b_nil).to [.own .la true, .im false, .im false, .im true, .own .l true, .no, .no, .no, .no]))
    (b_cons (zx_for1 (n := 9) .never t.n_range (XAD.to true true (xa_cons (xd_callM 0 G_l_take (hr.mono (by decide)) t.m_l_take t.F_l_take.kp t.b_l_take pass0 (xb_a (XAD.to true true (xa_cons (xd_of (x_add (x_var 2) (x_int))) (xa_nil))))) (xa_nil))) (g_name 5 nd)
    ((b_cons ((zx_set 6 nd (xd_callM 0 G_l_take (hr.mono (by decide)) t.m_l_take t.F_l_take.kp t.b_l_take pass0 (xb_a (XAD.to true false (xa_cons (xd_of (x_var 1)) (xa_nil)))))).to [.own .la true, .im false, .im false, .im true, .own .l true, .im true, .im true, .no, .no])
    (b_cons ((zx_set 7 nd (xd_mod (xd_add (xd_of (x_add (x_var 6) (x_int))) (xd_callM 0 G_l_take (hr.mono (by decide)) t.m_l_take t.F_l_take.kp t.b_l_take pass0 (xb_a (XAD.to true true (xa_cons (xd_of (x_sub (x_var 1) (x_int))) (xa_nil)))))) (xd_of (x_var 1)))).to [.own .la true, .im false, .im false, .im true, .own .l true, .im true, .im true, .im true, .no])
    (b_cons (zx_if (Δn := [.own .la true, .im false, .im false, .im true, .own .l true, .im true, .im true, .im true, .no]) (xt_w (xw_and (xt_of (c_cmp (or_eq hr) (x_var 3) (x_int))) (xw_and1 (xt_cmp (or_eq hr) (xd_callM 0 G_l_take (hr.mono (by decide)) t.m_l_take t.F_l_take.kp t.b_l_take pass0 (xb_a (XAD.to true true (xa_cons (xd_of (x_int)) (xa_nil))))) (xd_of (x_int))))))
    ((b_one ((z_set 7 nd (x_mod (x_add (x_var 6) (x_int)) (x_var 1))).to [.own .la true, .im false, .im false, .im true, .own .l true, .im true, .im true, .im true, .no])).to [.own .la true, .im false, .im false, .im true, .own .l true, .im true, .im true, .im true, .no])
    ((b_nil).to [.own .la true, .im false, .im false, .im true, .own .l true, .im true, .im true, .im true, .no]))
    (b_cons ((zx_set 8 nd (xd_add (xd_of (x_int)) (xd_callM 0 G_l_take (hr.mono (by decide)) t.m_l_take t.F_l_take.kp t.b_l_take pass0 (xb_a (XAD.to true true (xa_cons (xd_of (x_ix ((x_lst (AD.to true true (a_cons (x_int) (a_cons (x_int) (a_cons (x_int) (a_cons (x_int) (a_nil))))))).nv) (x_var 3))) (xa_nil))))))).to [.own .la true, .im false, .im false, .im true, .own .l true, .im true, .im true, .im true, .im true])
    (b_cons (z_if (Δn := [.own .la true, .im false, .im false, .im true, .own .l true, .im true, .im true, .im true, .im true]) (c_cmp (or_eq hr) (x_var 3) (x_int))
    ((b_one ((zx_set 8 nd (xd_sub (xd_of (x_mul (x_var 8) (x_pow (x_int) (x_int)))) (xd_callM 0 G_l_take (hr.mono (by decide)) t.m_l_take t.F_l_take.kp t.b_l_take pass0 (xb_a (XAD.to true true (xa_cons (xd_of (x_int)) (xa_nil))))))).to [.own .la true, .im false, .im false, .im true, .own .l true, .im true, .im true, .im true, .im true])).to [.own .la true, .im false, .im false, .im true, .own .l true, .im true, .im true, .im true, .im true])
    ((b_nil).to [.own .la true, .im false, .im false, .im true, .own .l true, .im true, .im true, .im true, .im true]))
    (b_one ((z_app 4 (x_tup (AD.to true true (a_cons (x_min2 t.n_min (AD.to true true (a_cons (x_var 6) (a_cons (x_var 7) (a_nil))))) (a_cons (x_max2 t.n_max (AD.to true true (a_cons (x_var 6) (a_cons (x_var 7) (a_nil))))) (a_cons (x_var 8) (a_nil))))))).to [.own .la true, .im false, .im false, .im true, .own .l true, .im true, .im true, .im true, .im true]))))))).to [.own .la true, .im false, .im false, .im true, .own .l true, .no, .no, .no, .no]))
    (b_one (zx_retMO 4)))))) rfl⟩
/-! ### _law_whole -/
def g_l_whole : Gs := gRet (gAndV (gUn (hIsa .int) (gVar 0)) (gNotV (gUn (hIsa .bool) (gVar 0))))
def f_l_whole : List Dt → O Dt := fnN 1 g_l_whole
theorem ok_l_whole (t : Tx K mg) : FnOk P w K mg base CX0 1 t.a_l_whole t.d_l_whole ["found"] (spG K mg 1 f_l_whole) := by
  have nd : (["found"] : List Str).Nodup := by decide +kernel
  exact fn_okN t.F_l_whole (Δn := [.im false]) sc_l_whole rfl rfl (by decide) fun cdv A outer s H E hr => ⟨_, BD.frm [.im false] (Δb := kd0 1 1 false) (Δc := kd0 1 1 false)
    (b_one (z_ret (x_and (x_isa .int t.n_isinstance t.n_int (x_var 0)) (x_one (x_not (x_isa .bool t.n_isinstance t.n_bool (x_var 0))))))) rfl⟩
/-! ### _law_order -/
def g_l_order_L1 : Gs := gSeqS (gSet 6 (gCB hSum (gCons (gLc (gSeq (gVar 1)) (tgT (tgCons (tgN 7) (tgCons (tgN 8) (tgCons (tgN 9) (tgNil))))) (gOr (gAnd (gTest (gOp hEq (gVar 5) (gVar 7))) (gTest (gOp hIn (gVar 8) (gVar 3)))) (gAnd (gTest (gOp hEq (gVar 5) (gVar 8))) (gTest (gOp hIn (gVar 7) (gVar 3))))) (gVar 9)) (gNil)))) (gIfS (gAnd (gTest (gOp hNotIn (gVar 5) (gVar 3))) (gOr (gTest (gOp hIs (gVar 4) (gC .none))) (gTest (gOp hGt (gVar 6) (gOp hIx (gVar 4) (gC (.int (0)))))))) (gSet 4 (gTup (gCons (gVar 6) (gCons (gVar 5) (gNil))))) (gNext))
def g_l_order_L2 : Gs := gSeqS (gSet 4 (gC .none)) (gSeqS (gFor (gRng1 (gCons (gVar 0) (gNil))) (tgN 5) g_l_order_L1) (gApp 3 (gOp hIx (gVar 4) (gC (.int (1))))))
def g_l_order_T2 : List Dt → O Bool := gTest (gOp hLt (gCB hLen (gCons (gVar 3) (gNil))) (gVar 0))
def g_l_order : Gs := gSeqS (gSet 3 (gLst (gCons (gVar 2) (gNil)))) (gSeqS (gWhile g_l_order_T2 g_l_order_L2 100) (gRet (gPurV 3)))
def f_l_order : List Dt → O Dt := fnL 10 g_l_order
theorem ok_l_order (t : Tx K mg) : FnOk P w K mg base CX0 1 t.a_l_order t.d_l_order ["n", "heavy", "begin"] (spL K mg 3 f_l_order) := by
  have nd : (["n", "heavy", "begin", "row", "best", "place", "ahead", "a", "b", "weight"] : List Str).Nodup := by decide +kernel
  exact fn_okL t.F_l_order (Δn := [.im false, .im false, .im false, .no, .no, .no, .no, .no, .no, .no]) sc_l_order rfl rfl (by decide) fun cdv A outer s H E hr => ⟨_, BD.frm [.im false, .im false, .im false, .no, .no, .no, .no, .no, .no, .no] (Δb := kd0 3 10 false) (Δc := kd0 3 10 false)
    (b_cons ((z_setO 3 nd (x_lst (AD.to true false (a_cons (x_var 2) (a_nil))))).to [.im false, .im false, .im false, .own .l false, .no, .no, .no, .no, .no, .no])
    (b_cons (z_while 100 .never (c_cmp or_lt (x_len t.n_len (AD.to false false (a_cons ((x_own 3).ov) (a_nil)))) (x_var 0))
    ((b_cons ((z_set 4 nd (x_non)).to [.im false, .im false, .im false, .own .l false, .im true, .no, .no, .no, .no, .no])
    (b_cons (z_for (n := 10) .never (i_rng1 t.n_range (AD.to true false (a_cons (x_var 0) (a_nil)))) (g_name 5 nd)
    ((b_cons ((z_set 6 nd (x_sum t.n_sum (AD.to true false (a_cons ((x_lc (n := 10) [("a", 7), ("b", 8), ("weight", 9)] nd (i_seq (x_var 1)) (blk_fx (N := ["n", "heavy", "begin", "row", "best", "place", "ahead", "a", "b", "weight"]) (sc := defScope st_l_order) (by decide +kernel)) (fun _ _ _ _ _ => g_tup (m := 3) rfl (g_cons (g_name 7 nd) (g_cons (g_name 8 nd) (g_cons (g_name 9 nd) (g_nil)))) (tgCons_len (tgCons_len (tgCons_len tgNil_len)))) (fun _ _ _ _ _ => t_one (c_w (w_or (c_w (w_and (c_cmp (or_eq hr) (x_var 5) (x_var 7)) (w_and1 (c_cmp (or_in hr) (x_var 8) ((x_own 3).ov))))) (w_or1 (c_w (w_and (c_cmp (or_eq hr) (x_var 5) (x_var 8)) (w_and1 (c_cmp (or_in hr) (x_var 7) ((x_own 3).ov))))))))) (fun _ _ _ _ _ => x_var 9)).nv) (a_nil))))).to [.im false, .im false, .im false, .own .l false, .im true, .im true, .im true, .no, .no, .no])
    (b_one (z_if (Δn := [.im false, .im false, .im false, .own .l false, .im true, .im true, .im true, .no, .no, .no]) (c_w (w_and (c_cmp (or_notIn hr) (x_var 5) ((x_own 3).ov)) (w_and1 (c_w (w_or (c_cmp or_isN (x_var 4) (x_non)) (w_or1 (c_cmp or_gt (x_var 6) (x_ix (x_var 4) (x_int)))))))))
    ((b_one ((z_set 4 nd (x_tup (AD.to true true (a_cons (x_var 6) (a_cons (x_var 5) (a_nil)))))).to [.im false, .im false, .im false, .own .l false, .im true, .im true, .im true, .no, .no, .no])).to [.im false, .im false, .im false, .own .l false, .im true, .im true, .im true, .no, .no, .no])
    ((b_nil).to [.im false, .im false, .im false, .own .l false, .im true, .im true, .im true, .no, .no, .no])))).to [.im false, .im false, .im false, .own .l false, .im true, .no, .no, .no, .no, .no]))
    (b_one ((z_app 3 (x_ix (x_var 4) (x_int))).to [.im false, .im false, .im false, .own .l false, .im true, .no, .no, .no, .no, .no])))).to [.im false, .im false, .im false, .own .l false, .no, .no, .no, .no, .no, .no]))
    (b_one (z_retOp 3)))) rfl⟩
/-! ### _law_bands -/
def g_l_bands_L1 : Gs := gIfS (gTest (gOp hEq (gCB hMax2 (gCons (gIdx (gVar 1) (gVar 11)) (gCons (gIdx (gVar 1) (gVar 12)) (gNil)))) (gVar 7))) (gSeqS (gSet 14 (gCB hMin2 (gCons (gIdx (gVar 1) (gVar 11)) (gCons (gIdx (gVar 1) (gVar 12)) (gNil))))) (gIfS (gOr (gTest (gOp hLt (gVar 14) (gVar 8))) (gAnd (gTest (gOp hEq (gVar 14) (gVar 8))) (gTest (gOp hLt (gVar 10) (gVar 3))))) (gSet 9 (gOp hAdd (gVar 9) (gVar 13))) (gNext))) (gNext)
def g_l_bands_L2 : Gs := gSeqS (gSet 7 (gCB hMax2 (gCons (gIdx (gVar 1) (gVar 4)) (gCons (gIdx (gVar 1) (gVar 5)) (gNil))))) (gSeqS (gSet 8 (gCB hMin2 (gCons (gIdx (gVar 1) (gVar 4)) (gCons (gIdx (gVar 1) (gVar 5)) (gNil))))) (gSeqS (gSet 9 (gC (.int (0)))) (gSeqS (gFor (gEnum (gCons (gVar 0) (gNil))) (tgT (tgCons (tgN 10) (tgCons (tgT (tgCons (tgN 11) (tgCons (tgN 12) (tgCons (tgN 13) (tgNil))))) (tgNil)))) g_l_bands_L1) (gApp 2 (gTup (gCons (gVar 9) (gCons (gOp hAdd (gVar 9) (gVar 6)) (gNil))))))))
def g_l_bands : Gs := gSeqS (gSet 2 (gLst (gNil))) (gSeqS (gFor (gEnum (gCons (gVar 0) (gNil))) (tgT (tgCons (tgN 3) (tgCons (tgT (tgCons (tgN 4) (tgCons (tgN 5) (tgCons (tgN 6) (tgNil))))) (tgNil)))) g_l_bands_L2) (gRet (gVar 2)))
def f_l_bands : List Dt → O Dt := fnL 15 g_l_bands
theorem ok_l_bands (t : Tx K mg) : FnOk P w K mg base CX0 1 t.a_l_bands t.d_l_bands ["heavy", "row"] (spL K mg 2 f_l_bands) := by
  have nd : (["heavy", "row", "found", "k", "a", "b", "weight", "late", "early", "low", "j", "c", "d", "other", "ahead"] : List Str).Nodup := by decide +kernel
  exact fn_okL t.F_l_bands (Δn := [.im false, .im false, .no, .no, .no, .no, .no, .no, .no, .no, .no, .no, .no, .no, .no]) sc_l_bands rfl rfl (by decide) fun cdv A outer s H E hr => ⟨_, BD.frm [.im false, .im false, .no, .no, .no, .no, .no, .no, .no, .no, .no, .no, .no, .no, .no] (Δb := kd0 2 15 false) (Δc := kd0 2 15 false)
    (b_cons ((z_setO 2 nd (x_lst (a_nil))).to [.im false, .im false, .own .l true, .no, .no, .no, .no, .no, .no, .no, .no, .no, .no, .no, .no])
    (b_cons (z_for (n := 15) .never (i_enum t.n_enumerate (AD.to true false (a_cons (x_var 0) (a_nil)))) (g_tup (m := 2) rfl (g_cons (g_name 3 nd) (g_cons (g_tup (m := 3) rfl (g_cons (g_name 4 nd) (g_cons (g_name 5 nd) (g_cons (g_name 6 nd) (g_nil)))) (tgCons_len (tgCons_len (tgCons_len tgNil_len)))) (g_nil))) (tgCons_len (tgCons_len tgNil_len)))
    ((b_cons ((z_set 7 nd (x_max2 t.n_max (AD.to true true (a_cons (x_index (x_var 1) (x_var 4)) (a_cons (x_index (x_var 1) (x_var 5)) (a_nil)))))).to [.im false, .im false, .own .l true, .im false, .im false, .im false, .im false, .im true, .no, .no, .no, .no, .no, .no, .no])
    (b_cons ((z_set 8 nd (x_min2 t.n_min (AD.to true true (a_cons (x_index (x_var 1) (x_var 4)) (a_cons (x_index (x_var 1) (x_var 5)) (a_nil)))))).to [.im false, .im false, .own .l true, .im false, .im false, .im false, .im false, .im true, .im true, .no, .no, .no, .no, .no, .no])
    (b_cons ((z_set 9 nd (x_int)).to [.im false, .im false, .own .l true, .im false, .im false, .im false, .im false, .im true, .im true, .im true, .no, .no, .no, .no, .no])
    (b_cons (z_for (n := 15) .never (i_enum t.n_enumerate (AD.to true false (a_cons (x_var 0) (a_nil)))) (g_tup (m := 2) rfl (g_cons (g_name 10 nd) (g_cons (g_tup (m := 3) rfl (g_cons (g_name 11 nd) (g_cons (g_name 12 nd) (g_cons (g_name 13 nd) (g_nil)))) (tgCons_len (tgCons_len (tgCons_len tgNil_len)))) (g_nil))) (tgCons_len (tgCons_len tgNil_len)))
    ((b_one (z_if (Δn := [.im false, .im false, .own .l true, .im false, .im false, .im false, .im false, .im true, .im true, .im true, .im false, .im false, .im false, .im false, .no]) (c_cmp (or_eq hr) (x_max2 t.n_max (AD.to true true (a_cons (x_index (x_var 1) (x_var 11)) (a_cons (x_index (x_var 1) (x_var 12)) (a_nil))))) (x_var 7))
    ((b_cons ((z_set 14 nd (x_min2 t.n_min (AD.to true true (a_cons (x_index (x_var 1) (x_var 11)) (a_cons (x_index (x_var 1) (x_var 12)) (a_nil)))))).to [.im false, .im false, .own .l true, .im false, .im false, .im false, .im false, .im true, .im true, .im true, .im false, .im false, .im false, .im false, .im true])
    (b_one (z_if (Δn := [.im false, .im false, .own .l true, .im false, .im false, .im false, .im false, .im true, .im true, .im true, .im false, .im false, .im false, .im false, .im true]) (c_w (w_or (c_cmp or_lt (x_var 14) (x_var 8)) (w_or1 (c_w (w_and (c_cmp (or_eq hr) (x_var 14) (x_var 8)) (w_and1 (c_cmp or_lt (x_var 10) (x_var 3))))))))
    ((b_one ((z_set 9 nd (x_add (x_var 9) (x_var 13))).to [.im false, .im false, .own .l true, .im false, .im false, .im false, .im false, .im true, .im true, .im true, .im false, .im false, .im false, .im false, .im true])).to [.im false, .im false, .own .l true, .im false, .im false, .im false, .im false, .im true, .im true, .im true, .im false, .im false, .im false, .im false, .im true])
    ((b_nil).to [.im false, .im false, .own .l true, .im false, .im false, .im false, .im false, .im true, .im true, .im true, .im false, .im false, .im false, .im false, .im true])))).to [.im false, .im false, .own .l true, .im false, .im false, .im false, .im false, .im true, .im true, .im true, .im false, .im false, .im false, .im false, .no])
    ((b_nil).to [.im false, .im false, .own .l true, .im false, .im false, .im false, .im false, .im true, .im true, .im true, .im false, .im false, .im false, .im false, .no]))).to [.im false, .im false, .own .l true, .im false, .im false, .im false, .im false, .im true, .im true, .im true, .no, .no, .no, .no, .no]))
    (b_one ((z_app 2 (x_tup (AD.to true true (a_cons (x_var 9) (a_cons (x_add (x_var 9) (x_var 6)) (a_nil)))))).to [.im false, .im false, .own .l true, .im false, .im false, .im false, .im false, .im true, .im true, .im true, .no, .no, .no, .no, .no])))))).to [.im false, .im false, .own .l true, .no, .no, .no, .no, .no, .no, .no, .no, .no, .no, .no, .no]))
    (b_one (z_retO 2)))) rfl⟩
/-! ### _law_are -/
def g_l_are : Gs := gSeqS (gIfS (gOr (gNot (gTest (gUn (hIsa .list) (gVar 0)))) (gNot (gTest (gCB hAll (gCons (gLc (gSeq (gVar 0)) (tgN 2) (gYes) (gUn (hIsa .tuple) (gVar 2))) (gNil)))))) (gRet (gC (.bool false))) (gNext)) (gRet (gAndV (gOp hEq (gVar 0) (gVar 1)) (gCB hAll (gCons (gLc (gSeq (gVar 0)) (tgN 2) (gYes) (gAndV (gCallN 1 f_l_whole (gCons (gOp hIx (gVar 2) (gC (.int (0)))) (gNil))) (gCallN 1 f_l_whole (gCons (gOp hIx (gVar 2) (gC (.int (1)))) (gNil))))) (gNil)))))
def f_l_are : List Dt → O Dt := fnN 3 g_l_are
theorem ok_l_are (t : Tx K mg) : FnOk P w K mg base CX0 2 t.a_l_are t.d_l_are ["found", "due"] (spG K mg 2 f_l_are) := by
  have G_l_whole := ok_l_whole (P := P) (w := w) (base := base) t
  have nd : (["found", "due", "band"] : List Str).Nodup := by decide +kernel
  exact fn_okN t.F_l_are (Δn := [.im false, .im false, .no]) sc_l_are rfl rfl (by decide) fun cdv A outer s H E hr => ⟨_, BD.frm [.im false, .im false, .no] (Δb := kd0 2 3 false) (Δc := kd0 2 3 false)
    (b_cons (z_if (Δn := [.im false, .im false, .no]) (c_w (w_or (c_not (c_val (x_isa .list t.n_isinstance t.n_list (x_var 0)))) (w_or1 (c_not (c_val (x_all t.n_all (AD.to true true (a_cons ((x_lc (n := 3) [("band", 2)] nd (i_seq (x_var 0)) (blk_fx (N := ["found", "due", "band"]) (sc := defScope st_l_are) (by decide +kernel)) (fun _ _ _ _ _ => g_name 2 nd) (fun _ _ _ _ _ => t_nil) (fun _ _ _ _ _ => x_isa .tuple t.n_isinstance t.n_tuple (x_var 2))).nv) (a_nil)))))))))
    (b_one (z_ret (x_bl)))
    ((b_nil).to [.im false, .im false, .no]))
    (b_one (z_ret (x_and (x_cmp (or_eq hr) (x_var 0) (x_var 1)) (x_one (x_all t.n_all (AD.to true true (a_cons ((x_lc (n := 3) [("band", 2)] nd (i_seq (x_var 0)) (blk_fx (N := ["found", "due", "band"]) (sc := defScope st_l_are) (by decide +kernel)) (fun _ _ _ _ _ => g_name 2 nd) (fun _ _ _ _ _ => t_nil) (fun _ _ _ _ _ => x_and (x_callN G_l_whole (hr.mono (by decide)) t.m_l_whole t.F_l_whole.kp t.b_l_whole pass0 (AD.to true false (a_cons (x_ix (x_var 2) (x_int)) (a_nil)))) (x_one (x_callN G_l_whole (hr.mono (by decide)) t.m_l_whole t.F_l_whole.kp t.b_l_whole pass0 (AD.to true false (a_cons (x_ix (x_var 2) (x_int)) (a_nil))))))).nv) (a_nil))))))))) rfl⟩
/-! ### _law_mixed_up -/
def g_l_mixed_up_L1 : Gs := xApp 3 (xPop 2 (xCallM .la 2 f_l_take 0 (xCons (xP (gCB hLen (gCons (gVar 2) (gNil)))) (xNil))))
def g_l_mixed_up : Gs := gSeqS (gSet 2 (gLsI (gRng1 (gCons (gVar 1) gNil)))) (gSeqS (gSet 3 (gLst (gNil))) (gSeqS (gFor (gRng1 (gCons (gVar 1) (gNil))) (tgN 4) g_l_mixed_up_L1) (xRetMO 3)))
def f_l_mixed_up : List Dt → O Dt := fnL 5 g_l_mixed_up
theorem ok_l_mixed_up (t : Tx K mg) : FnOk P w K mg base CX0 2 t.a_l_mixed_up t.d_l_mixed_up ["pool", "n"] (spML K .la 2 f_l_mixed_up) := by
  have G_l_take := ok_l_take (P := P) (w := w) (base := base) t
  have nd : (["pool", "n", "left", "row", "k"] : List Str).Nodup := by decide +kernel
  exact fn_okML t.F_l_mixed_up (Δn := [.own .la true, .im false, .no, .no, .no]) sc_l_mixed_up rfl rfl (by decide) rfl fun cdv A outer s H E hr => ⟨_, BD.frm [.own .la true, .im false, .no, .no, .no] (Δb := kdM .la 2 5) (Δc := kdM .la 2 5)
    (b_cons ((z_setO 2 nd (x_lrng1 t.n_list t.n_range (x_var 1))).to [.own .la true, .im false, .own .l true, .no, .no])
    (b_cons ((z_setO 3 nd (x_lst (a_nil))).to [.own .la true, .im false, .own .l true, .own .l true, .no])
    (b_cons (z_for (n := 5) .never (i_rng1 t.n_range (AD.to true false (a_cons (x_var 1) (a_nil)))) (g_name 4 nd)
    ((b_one ((zx_app 3 (xd_popAt 2 (xd_callM 0 G_l_take (hr.mono (by decide)) t.m_l_take t.F_l_take.kp t.b_l_take pass0 (xb_a (XAD.to true true (xa_cons (xd_of (x_len t.n_len (AD.to false true (a_cons ((x_own 2).ov) (a_nil))))) (xa_nil))))))).to [.own .la true, .im false, .own .l true, .own .l true, .im true])).to [.own .la true, .im false, .own .l true, .own .l true, .no]))
    (b_one (zx_retMO 3))))) rfl⟩
/-! ### _law_heads -/
def g_l_heads : Gs := gRet (gLc (gSeq (gVar 0)) (tgT (tgCons (tgN 2) (tgCons (tgN 3) (tgNil)))) (gYes) (gCB hMax2 (gCons (gC (.int (0))) (gCons (gOp hSub (gCB hMin2 (gCons (gVar 3) (gCons (gVar 1) (gNil)))) (gVar 2)) (gNil)))))
def f_l_heads : List Dt → O Dt := fnL 4 g_l_heads
theorem ok_l_heads (t : Tx K mg) : FnOk P w K mg base CX0 1 t.a_l_heads t.d_l_heads ["due", "number"] (spL K mg 2 f_l_heads) := by
  have nd : (["due", "number", "low", "high"] : List Str).Nodup := by decide +kernel
  exact fn_okL t.F_l_heads (Δn := [.im false, .im false, .no, .no]) sc_l_heads rfl rfl (by decide) fun cdv A outer s H E hr => ⟨_, BD.frm [.im false, .im false, .no, .no] (Δb := kd0 2 4 false) (Δc := kd0 2 4 false)
    (b_one (z_retL (x_lc (n := 4) [("low", 2), ("high", 3)] nd (i_seq (x_var 0)) (blk_fx (N := ["due", "number", "low", "high"]) (sc := defScope st_l_heads) (by decide +kernel)) (fun _ _ _ _ _ => g_tup (m := 2) rfl (g_cons (g_name 2 nd) (g_cons (g_name 3 nd) (g_nil))) (tgCons_len (tgCons_len tgNil_len))) (fun _ _ _ _ _ => t_nil) (fun _ _ _ _ _ => x_max2 t.n_max (AD.to true true (a_cons (x_int) (a_cons (x_sub (x_min2 t.n_min (AD.to true false (a_cons (x_var 3) (a_cons (x_var 1) (a_nil))))) (x_var 2)) (a_nil)))))))) rfl⟩
/-! ### law -/
def g_law_L1 : Gs := gSeqS (gSet 1 (gCallN 2 f_l_pool (gCons (gVar 0) (gCons (gVar 3) (gNil))))) (gSeqS (xSet 4 (xCallM .la 3 f_l_heavy 1 (xCons (xP (gVar 2)) (xCons (xOp hIx (xP (gLst (gCons (gC (.int (12))) (gCons (gC (.int (12))) (gCons (gC (.int (12))) (gCons (gC (.int (40))) (gNil))))))) (xCallM .la 2 f_l_take 1 (xCons (xP (gC (.int (4)))) (xNil)))) (xNil))))) (gSeqS (xSet 5 (xCallM .la 2 f_l_take 1 (xCons (xP (gVar 2)) (xNil)))) (gSeqS (gSet 6 (gCallN 3 f_l_order (gCons (gVar 2) (gCons (gVar 4) (gCons (gVar 5) (gNil)))))) (gSeqS (gSet 7 (gCB (one hListOf) (gCons (gVar 4) gNil))) (gSeqS (gSet 8 (gCallN 3 f_order (gCons (gVar 2) (gCons (gVar 7) (gCons (gVar 5) (gNil)))))) (gSeqS (gIfS (gOr (gTest (gOp hNe (gVar 8) (gVar 6))) (gNot (gTest (gCB hAll (gCons (gLc (gSeq (gVar 8)) (tgN 9) (gYes) (gCallN 1 f_l_whole (gCons (gVar 9) (gNil)))) (gNil)))))) (gRet (gC (.bool false))) (gNext)) (gSeqS (gIfS (gTest (gOp hNe (gCallDf 3 f_order [.int (0)] (gCons (gVar 2) (gCons (gVar 7) (gNil)))) (gCallN 3 f_l_order (gCons (gVar 2) (gCons (gVar 4) (gCons (gC (.int (0))) (gNil))))))) (gRet (gC (.bool false))) (gNext)) (gSeqS (xIfS (xTest (xOp hEq (xCallM .la 2 f_l_take 1 (xCons (xP (gC (.int (3)))) (xNil))) (xP (gC (.int (0)))))) (xSet 6 (xCallM .la 2 f_l_mixed_up 1 (xCons (xP (gVar 2)) (xNil)))) (gNext)) (gSeqS (gSet 10 (gCallN 2 f_l_bands (gCons (gVar 4) (gCons (gVar 6) (gNil))))) (gSeqS (gSet 11 (gCallN 3 f_bands (gCons (gVar 2) (gCons (gVar 7) (gCons (gCB (one hListOf) (gCons (gVar 6) gNil)) (gNil)))))) (gSeqS (gIfS (gNot (gTest (gCallN 2 f_l_are (gCons (gVar 11) (gCons (gVar 10) (gNil)))))) (gRet (gC (.bool false))) (gNext)) (gSeqS (xSet 12 (xCallM .la 2 f_l_take 1 (xCons (xOp hIx (xP (gLst (gCons (gC (.int (4))) (gCons (gC (.int (20))) (gCons (gOp hPow (gC (.int (10))) (gC (.int (32)))) (gNil)))))) (xCallM .la 2 f_l_take 1 (xCons (xP (gC (.int (3)))) (xNil)))) (xNil)))) (gSeqS (gSet 13 (gCallN 2 f_heads (gCons (gCB (one hListOf) (gCons (gVar 10) gNil)) (gCons (gVar 12) (gNil))))) (gSeqS (gIfS (gOr (gTest (gOp hNe (gVar 13) (gCallN 2 f_l_heads (gCons (gVar 10) (gCons (gVar 12) (gNil)))))) (gNot (gTest (gCB hAll (gCons (gLc (gSeq (gVar 13)) (tgN 14) (gYes) (gCallN 1 f_l_whole (gCons (gVar 14) (gNil)))) (gNil)))))) (gRet (gC (.bool false))) (gNext)) (gSeqS (gRvS 8) (gSeqS (gClr 11) (gSeqS (gApp 13 (gC (.int (7)))) (gSeqS (gIfS (gOr (gTest (gOp hNe (gCallN 3 f_order (gCons (gVar 2) (gCons (gVar 7) (gCons (gVar 5) (gNil))))) (gCallN 3 f_l_order (gCons (gVar 2) (gCons (gVar 4) (gCons (gVar 5) (gNil))))))) (gTest (gOp hNe (gCallN 3 f_bands (gCons (gVar 2) (gCons (gVar 7) (gCons (gCB (one hListOf) (gCons (gVar 6) gNil)) (gNil))))) (gVar 10)))) (gRet (gC (.bool false))) (gNext)) (gSeqS (gIfS (gOr (gTest (gOp hNe (gCallN 2 f_heads (gCons (gCB (one hListOf) (gCons (gVar 10) gNil)) (gCons (gVar 12) (gNil)))) (gCallN 2 f_l_heads (gCons (gVar 10) (gCons (gVar 12) (gNil)))))) (gTest (gOp hNe (gVar 7) (gVar 4)))) (gRet (gC (.bool false))) (gNext)) (gIfS (gTest (gOp hNe (gVar 4) (gLst (gNil)))) (gSeqS (gPopS 7) (gSeqS (gIfS (gTest (gOp hNe (gCallKw 2 3 f_order (gCons (gVar 2) (gCons (gVar 7) (gNil))) (gCons (gVar 5) gNil)) (gCallN 3 f_l_order (gCons (gVar 2) (gCons (gSl hSl (gVar 4) (gNoPart) (gPart (gUn (hU fun i => -i) (gC (.int (1)))))) (gCons (gVar 5) (gNil))))))) (gRet (gC (.bool false))) (gNext)) (gIfS (gTest (gOp hNe (gCallN 3 f_bands (gCons (gVar 2) (gCons (gVar 7) (gCons (gCB (one hListOf) (gCons (gVar 6) gNil)) (gNil))))) (gCallN 2 f_l_bands (gCons (gSl hSl (gVar 4) (gNoPart) (gPart (gUn (hU fun i => -i) (gC (.int (1)))))) (gCons (gVar 6) (gNil)))))) (gRet (gC (.bool false))) (gNext)))) (gNext)))))))))))))))))))))
def g_law : Gs := gSeqS (gSet 1 (gCallN 2 f_l_pool (gCons (gVar 0) (gCons (gC (.int (0))) (gNil))))) (gSeqS (xSet 2 (xOp hAdd (xP (gC (.int (1)))) (xCallM .la 2 f_l_take 1 (xCons (xOp hIx (xP (gLst (gCons (gC (.int (5))) (gCons (gC (.int (10))) (gNil))))) (xCallM .la 2 f_l_take 1 (xCons (xP (gC (.int (2)))) (xNil)))) (xNil))))) (gSeqS (gFor (gRng2 (gCons (gC (.int (1))) (gCons (gCB hMax2 (gCons (gC (.int (2))) (gCons (gCB hMin2 (gCons (gC (.int (7))) (gCons (gCB hLen (gCons (gVar 0) (gNil))) (gNil)))) (gNil)))) (gNil)))) (tgN 3) g_law_L1) (gRet (gC (.bool true)))))
def f_law : List Dt → O Dt := fnN 15 g_law
theorem ok_law (t : Tx K mg) : FnOk P w K mg base CX0 7 t.a_law t.d_law ["script"] (spG K mg 1 f_law) := by
  have G_l_pool := ok_l_pool (P := P) (w := w) (base := base) t
  have G_l_take := ok_l_take (P := P) (w := w) (base := base) t
  have G_l_heavy := ok_l_heavy (P := P) (w := w) (base := base) t
  have G_l_order := ok_l_order (P := P) (w := w) (base := base) t
  have G_order := ok_order (P := P) (w := w) (base := base) t
  have G_l_whole := ok_l_whole (P := P) (w := w) (base := base) t
  have G_l_mixed_up := ok_l_mixed_up (P := P) (w := w) (base := base) t
  have G_l_bands := ok_l_bands (P := P) (w := w) (base := base) t
  have G_bands := ok_bands (P := P) (w := w) (base := base) t
  have G_l_are := ok_l_are (P := P) (w := w) (base := base) t
  have G_heads := ok_heads (P := P) (w := w) (base := base) t
  have G_l_heads := ok_l_heads (P := P) (w := w) (base := base) t
  have nd : (["script", "pool", "n", "at", "heavy", "begin", "row", "handed", "found", "place", "due", "some", "number", "few", "one"] : List Str).Nodup := by decide +kernel
  exact fn_okN t.F_law (Δn := [.im false, .no, .no, .no, .no, .no, .no, .no, .no, .no, .no, .no, .no, .no, .no]) sc_law rfl rfl (by decide) fun cdv A outer s H E hr => ⟨_, BD.frm [.im false, .no, .no, .no, .no, .no, .no, .no, .no, .no, .no, .no, .no, .no, .no] (Δb := kd0 1 15 false) (Δc := kd0 1 15 false)
    (b_cons ((z_setO 1 nd (x_callL G_l_pool (hr.mono (by decide)) t.m_l_pool t.F_l_pool.kp t.b_l_pool pass0 (AD.to true false (a_cons (x_var 0) (a_cons (x_int) (a_nil)))))).to [.im false, .own .l true, .no, .no, .no, .no, .no, .no, .no, .no, .no, .no, .no, .no, .no])
    (b_cons ((zx_set 2 nd (xd_add (xd_of (x_int)) (xd_callM 1 G_l_take (hr.mono (by decide)) t.m_l_take t.F_l_take.kp t.b_l_take pass0 (xb_a (XAD.to true true (xa_cons (xd_ix ((xd_ofN (x_lst (AD.to true true (a_cons (x_int) (a_cons (x_int) (a_nil)))))).nv) (xd_callM 1 G_l_take (hr.mono (by decide)) t.m_l_take t.F_l_take.kp t.b_l_take pass0 (xb_a (XAD.to true true (xa_cons (xd_of (x_int)) (xa_nil)))))) (xa_nil))))))).to [.im false, .own .l true, .im true, .no, .no, .no, .no, .no, .no, .no, .no, .no, .no, .no, .no])
    (b_cons (z_for (n := 15) .never (i_rng2 t.n_range (AD.to true true (a_cons (x_int) (a_cons (x_max2 t.n_max (AD.to true true (a_cons (x_int) (a_cons (x_min2 t.n_min (AD.to true true (a_cons (x_int) (a_cons (x_len t.n_len (AD.to true false (a_cons (x_var 0) (a_nil)))) (a_nil))))) (a_nil))))) (a_nil))))) (g_name 3 nd)
    ((b_cons ((z_setO 1 nd (x_callL G_l_pool (hr.mono (by decide)) t.m_l_pool t.F_l_pool.kp t.b_l_pool pass0 (AD.to true false (a_cons (x_var 0) (a_cons (x_var 3) (a_nil)))))).to [.im false, .own .l true, .im true, .im true, .no, .no, .no, .no, .no, .no, .no, .no, .no, .no, .no])
    (b_cons ((zx_set 4 nd ((xd_callML 1 G_l_heavy (hr.mono (by decide)) t.m_l_heavy t.F_l_heavy.kp t.b_l_heavy pass0 (xb_a (XAD.to true true (xa_cons (xd_of (x_var 2)) (xa_cons (xd_ix ((xd_ofN (x_lst (AD.to true true (a_cons (x_int) (a_cons (x_int) (a_cons (x_int) (a_cons (x_int) (a_nil)))))))).nv) (xd_callM 1 G_l_take (hr.mono (by decide)) t.m_l_take t.F_l_take.kp t.b_l_take pass0 (xb_a (XAD.to true true (xa_cons (xd_of (x_int)) (xa_nil)))))) (xa_nil)))))).nv)).to [.im false, .own .l true, .im true, .im true, .im true, .no, .no, .no, .no, .no, .no, .no, .no, .no, .no])
    (b_cons ((zx_set 5 nd (xd_callM 1 G_l_take (hr.mono (by decide)) t.m_l_take t.F_l_take.kp t.b_l_take pass0 (xb_a (XAD.to true true (xa_cons (xd_of (x_var 2)) (xa_nil)))))).to [.im false, .own .l true, .im true, .im true, .im true, .im true, .no, .no, .no, .no, .no, .no, .no, .no, .no])
    (b_cons ((z_set 6 nd ((x_callL G_l_order (hr.mono (by decide)) t.m_l_order t.F_l_order.kp t.b_l_order pass0 (AD.to true true (a_cons (x_var 2) (a_cons (x_var 4) (a_cons (x_var 5) (a_nil)))))).nv)).to [.im false, .own .l true, .im true, .im true, .im true, .im true, .im true, .no, .no, .no, .no, .no, .no, .no, .no])
    (b_cons ((z_setO 7 nd (x_list t.n_list (a_cons (x_var 4) a_nil))).to [.im false, .own .l true, .im true, .im true, .im true, .im true, .im true, .own .l true, .no, .no, .no, .no, .no, .no, .no])
    (b_cons ((z_setO 8 nd (x_callL G_order (hr.mono (by decide)) t.m_order t.F_order.kp t.b_order pass0 (AD.to false true (a_cons (x_var 2) (a_cons ((x_own 7).ov) (a_cons (x_var 5) (a_nil))))))).to [.im false, .own .l true, .im true, .im true, .im true, .im true, .im true, .own .l true, .own .l true, .no, .no, .no, .no, .no, .no])
    (b_cons (z_if (Δn := [.im false, .own .l true, .im true, .im true, .im true, .im true, .im true, .own .l true, .own .l true, .no, .no, .no, .no, .no, .no]) (c_w (w_or (c_cmp (or_ne hr) ((x_own 8).ov) (x_var 6)) (w_or1 (c_not (c_val (x_all t.n_all (AD.to true true (a_cons ((x_lc (n := 15) [("place", 9)] nd (i_own (x_own 8)) (blk_fx (N := ["script", "pool", "n", "at", "heavy", "begin", "row", "handed", "found", "place", "due", "some", "number", "few", "one"]) (sc := defScope st_law) (by decide +kernel)) (fun _ _ _ _ _ => g_name 9 nd) (fun _ _ _ _ _ => t_nil) (fun _ _ _ _ _ => x_callN G_l_whole (hr.mono (by decide)) t.m_l_whole t.F_l_whole.kp t.b_l_whole pass0 (AD.to true true (a_cons (x_var 9) (a_nil))))).nv) (a_nil)))))))))
    (b_one (z_ret (x_bl)))
    ((b_nil).to [.im false, .own .l true, .im true, .im true, .im true, .im true, .im true, .own .l true, .own .l true, .no, .no, .no, .no, .no, .no]))
    (b_cons (z_if (Δn := [.im false, .own .l true, .im true, .im true, .im true, .im true, .im true, .own .l true, .own .l true, .no, .no, .no, .no, .no, .no]) (c_cmp (or_ne hr) ((x_callLDf G_order (hr.mono (by decide)) t.m_order t.F_order.kp (bD_order t) pass0 (AD.to false true (a_cons (x_var 2) (a_cons ((x_own 7).ov) (a_nil))))).nv) ((x_callL G_l_order (hr.mono (by decide)) t.m_l_order t.F_l_order.kp t.b_l_order pass0 (AD.to true true (a_cons (x_var 2) (a_cons (x_var 4) (a_cons (x_int) (a_nil)))))).nv))
    (b_one (z_ret (x_bl)))
    ((b_nil).to [.im false, .own .l true, .im true, .im true, .im true, .im true, .im true, .own .l true, .own .l true, .no, .no, .no, .no, .no, .no]))
    (b_cons (zx_if (Δn := [.im false, .own .l true, .im true, .im true, .im true, .im true, .im true, .own .l true, .own .l true, .no, .no, .no, .no, .no, .no]) (xt_cmp (or_eq hr) (xd_callM 1 G_l_take (hr.mono (by decide)) t.m_l_take t.F_l_take.kp t.b_l_take pass0 (xb_a (XAD.to true true (xa_cons (xd_of (x_int)) (xa_nil))))) (xd_of (x_int)))
    ((b_one ((zx_set 6 nd ((xd_callML 1 G_l_mixed_up (hr.mono (by decide)) t.m_l_mixed_up t.F_l_mixed_up.kp t.b_l_mixed_up pass0 (xb_a (XAD.to true true (xa_cons (xd_of (x_var 2)) (xa_nil))))).nv)).to [.im false, .own .l true, .im true, .im true, .im true, .im true, .im true, .own .l true, .own .l true, .no, .no, .no, .no, .no, .no])).to [.im false, .own .l true, .im true, .im true, .im true, .im true, .im true, .own .l true, .own .l true, .no, .no, .no, .no, .no, .no])
    ((b_nil).to [.im false, .own .l true, .im true, .im true, .im true, .im true, .im true, .own .l true, .own .l true, .no, .no, .no, .no, .no, .no]))
    (b_cons ((z_set 10 nd ((x_callL G_l_bands (hr.mono (by decide)) t.m_l_bands t.F_l_bands.kp t.b_l_bands pass0 (AD.to true true (a_cons (x_var 4) (a_cons (x_var 6) (a_nil))))).nv)).to [.im false, .own .l true, .im true, .im true, .im true, .im true, .im true, .own .l true, .own .l true, .no, .im true, .no, .no, .no, .no])
    (b_cons ((z_setO 11 nd (x_callL G_bands (hr.mono (by decide)) t.m_bands t.F_bands.kp t.b_bands pass0 (AD.to false true (a_cons (x_var 2) (a_cons ((x_own 7).ov) (a_cons ((x_list t.n_list (a_cons (x_var 6) a_nil)).nv) (a_nil))))))).to [.im false, .own .l true, .im true, .im true, .im true, .im true, .im true, .own .l true, .own .l true, .no, .im true, .own .l true, .no, .no, .no])
    (b_cons (z_if (Δn := [.im false, .own .l true, .im true, .im true, .im true, .im true, .im true, .own .l true, .own .l true, .no, .im true, .own .l true, .no, .no, .no]) (c_not (c_val (x_callN G_l_are (hr.mono (by decide)) t.m_l_are t.F_l_are.kp t.b_l_are pass0 (AD.to false true (a_cons ((x_own 11).ov) (a_cons (x_var 10) (a_nil)))))))
    (b_one (z_ret (x_bl)))
    ((b_nil).to [.im false, .own .l true, .im true, .im true, .im true, .im true, .im true, .own .l true, .own .l true, .no, .im true, .own .l true, .no, .no, .no]))
    (b_cons ((zx_set 12 nd (xd_callM 1 G_l_take (hr.mono (by decide)) t.m_l_take t.F_l_take.kp t.b_l_take pass0 (xb_a (XAD.to true true (xa_cons (xd_ix ((xd_ofN (x_lst (AD.to true true (a_cons (x_int) (a_cons (x_int) (a_cons (x_pow (x_int) (x_int)) (a_nil))))))).nv) (xd_callM 1 G_l_take (hr.mono (by decide)) t.m_l_take t.F_l_take.kp t.b_l_take pass0 (xb_a (XAD.to true true (xa_cons (xd_of (x_int)) (xa_nil)))))) (xa_nil)))))).to [.im false, .own .l true, .im true, .im true, .im true, .im true, .im true, .own .l true, .own .l true, .no, .im true, .own .l true, .im true, .no, .no])
    (b_cons ((z_setO 13 nd (x_callL G_heads (hr.mono (by decide)) t.m_heads t.F_heads.kp t.b_heads pass0 (AD.to true true (a_cons ((x_list t.n_list (a_cons (x_var 10) a_nil)).nv) (a_cons (x_var 12) (a_nil)))))).to [.im false, .own .l true, .im true, .im true, .im true, .im true, .im true, .own .l true, .own .l true, .no, .im true, .own .l true, .im true, .own .l true, .no])
    (b_cons (z_if (Δn := [.im false, .own .l true, .im true, .im true, .im true, .im true, .im true, .own .l true, .own .l true, .no, .im true, .own .l true, .im true, .own .l true, .no]) (c_w (w_or (c_cmp (or_ne hr) ((x_own 13).ov) ((x_callL G_l_heads (hr.mono (by decide)) t.m_l_heads t.F_l_heads.kp t.b_l_heads pass0 (AD.to true true (a_cons (x_var 10) (a_cons (x_var 12) (a_nil))))).nv)) (w_or1 (c_not (c_val (x_all t.n_all (AD.to true true (a_cons ((x_lc (n := 15) [("one", 14)] nd (i_own (x_own 13)) (blk_fx (N := ["script", "pool", "n", "at", "heavy", "begin", "row", "handed", "found", "place", "due", "some", "number", "few", "one"]) (sc := defScope st_law) (by decide +kernel)) (fun _ _ _ _ _ => g_name 14 nd) (fun _ _ _ _ _ => t_nil) (fun _ _ _ _ _ => x_callN G_l_whole (hr.mono (by decide)) t.m_l_whole t.F_l_whole.kp t.b_l_whole pass0 (AD.to true true (a_cons (x_var 14) (a_nil))))).nv) (a_nil)))))))))
    (b_one (z_ret (x_bl)))
    ((b_nil).to [.im false, .own .l true, .im true, .im true, .im true, .im true, .im true, .own .l true, .own .l true, .no, .im true, .own .l true, .im true, .own .l true, .no]))
    (b_cons ((z_rev 8).to [.im false, .own .l true, .im true, .im true, .im true, .im true, .im true, .own .l true, .own .l true, .no, .im true, .own .l true, .im true, .own .l true, .no])
    (b_cons ((z_clr 11).to [.im false, .own .l true, .im true, .im true, .im true, .im true, .im true, .own .l true, .own .l true, .no, .im true, .own .l true, .im true, .own .l true, .no])
    (b_cons ((z_app 13 (x_int)).to [.im false, .own .l true, .im true, .im true, .im true, .im true, .im true, .own .l true, .own .l true, .no, .im true, .own .l true, .im true, .own .l true, .no])
    (b_cons (z_if (Δn := [.im false, .own .l true, .im true, .im true, .im true, .im true, .im true, .own .l true, .own .l true, .no, .im true, .own .l true, .im true, .own .l true, .no]) (c_w (w_or (c_cmp (or_ne hr) ((x_callL G_order (hr.mono (by decide)) t.m_order t.F_order.kp t.b_order pass0 (AD.to false true (a_cons (x_var 2) (a_cons ((x_own 7).ov) (a_cons (x_var 5) (a_nil)))))).nv) ((x_callL G_l_order (hr.mono (by decide)) t.m_l_order t.F_l_order.kp t.b_l_order pass0 (AD.to true true (a_cons (x_var 2) (a_cons (x_var 4) (a_cons (x_var 5) (a_nil)))))).nv)) (w_or1 (c_cmp (or_ne hr) ((x_callL G_bands (hr.mono (by decide)) t.m_bands t.F_bands.kp t.b_bands pass0 (AD.to false true (a_cons (x_var 2) (a_cons ((x_own 7).ov) (a_cons ((x_list t.n_list (a_cons (x_var 6) a_nil)).nv) (a_nil)))))).nv) (x_var 10)))))
    (b_one (z_ret (x_bl)))
    ((b_nil).to [.im false, .own .l true, .im true, .im true, .im true, .im true, .im true, .own .l true, .own .l true, .no, .im true, .own .l true, .im true, .own .l true, .no]))
    (b_cons (z_if (Δn := [.im false, .own .l true, .im true, .im true, .im true, .im true, .im true, .own .l true, .own .l true, .no, .im true, .own .l true, .im true, .own .l true, .no]) (c_w (w_or (c_cmp (or_ne hr) ((x_callL G_heads (hr.mono (by decide)) t.m_heads t.F_heads.kp t.b_heads pass0 (AD.to true true (a_cons ((x_list t.n_list (a_cons (x_var 10) a_nil)).nv) (a_cons (x_var 12) (a_nil))))).nv) ((x_callL G_l_heads (hr.mono (by decide)) t.m_l_heads t.F_l_heads.kp t.b_l_heads pass0 (AD.to true true (a_cons (x_var 10) (a_cons (x_var 12) (a_nil))))).nv)) (w_or1 (c_cmp (or_ne hr) ((x_own 7).ov) (x_var 4)))))
    (b_one (z_ret (x_bl)))
    ((b_nil).to [.im false, .own .l true, .im true, .im true, .im true, .im true, .im true, .own .l true, .own .l true, .no, .im true, .own .l true, .im true, .own .l true, .no]))
    (b_one (z_if (Δn := [.im false, .own .l true, .im true, .im true, .im true, .im true, .im true, .own .l true, .own .l true, .no, .im true, .own .l true, .im true, .own .l true, .no]) (c_cmp (or_ne hr) (x_var 4) ((x_lst (a_nil)).nv))
    ((b_cons ((z_popS 7).to [.im false, .own .l true, .im true, .im true, .im true, .im true, .im true, .own .l true, .own .l true, .no, .im true, .own .l true, .im true, .own .l true, .no])
    (b_cons (z_if (Δn := [.im false, .own .l true, .im true, .im true, .im true, .im true, .im true, .own .l true, .own .l true, .no, .im true, .own .l true, .im true, .own .l true, .no]) (c_cmp (or_ne hr) ((x_callLK1 G_order (hr.mono (by decide)) t.m_order t.F_order.kp (bK_order t) pass0 (AD.to false true (a_cons (x_var 2) (a_cons ((x_own 7).ov) (a_nil)))) (x_var 5)).nv) ((x_callL G_l_order (hr.mono (by decide)) t.m_l_order t.F_l_order.kp t.b_l_order pass0 (AD.to true true (a_cons (x_var 2) (a_cons ((x_sl (x_var 4) (o_none) (o_some (x_neg (x_int)))).nv) (a_cons (x_var 5) (a_nil)))))).nv))
    (b_one (z_ret (x_bl)))
    ((b_nil).to [.im false, .own .l true, .im true, .im true, .im true, .im true, .im true, .own .l true, .own .l true, .no, .im true, .own .l true, .im true, .own .l true, .no]))
    (b_one (z_if (Δn := [.im false, .own .l true, .im true, .im true, .im true, .im true, .im true, .own .l true, .own .l true, .no, .im true, .own .l true, .im true, .own .l true, .no]) (c_cmp (or_ne hr) ((x_callL G_bands (hr.mono (by decide)) t.m_bands t.F_bands.kp t.b_bands pass0 (AD.to false true (a_cons (x_var 2) (a_cons ((x_own 7).ov) (a_cons ((x_list t.n_list (a_cons (x_var 6) a_nil)).nv) (a_nil)))))).nv) ((x_callL G_l_bands (hr.mono (by decide)) t.m_l_bands t.F_l_bands.kp t.b_l_bands pass0 (AD.to true true (a_cons ((x_sl (x_var 4) (o_none) (o_some (x_neg (x_int)))).nv) (a_cons (x_var 6) (a_nil))))).nv))
    (b_one (z_ret (x_bl)))
    ((b_nil).to [.im false, .own .l true, .im true, .im true, .im true, .im true, .im true, .own .l true, .own .l true, .no, .im true, .own .l true, .im true, .own .l true, .no]))))).to [.im false, .own .l true, .im true, .im true, .im true, .im true, .im true, .own .l true, .own .l true, .no, .im true, .own .l true, .im true, .own .l true, .no])
    ((b_nil).to [.im false, .own .l true, .im true, .im true, .im true, .im true, .im true, .own .l true, .own .l true, .no, .im true, .own .l true, .im true, .own .l true, .no]))))))))))))))))))))))).to [.im false, .own .l true, .im true, .no, .no, .no, .no, .no, .no, .no, .no, .no, .no, .no, .no]))
    (b_one (z_ret (x_bl)))))) rfl⟩
end
/-! ### what the top has written -/
section
variable {w : World} {K : PySem.W.Frag} {h : Heap} {mg : Str → Option Value}
def mkTx (X : K.In h) (G : h.Ns mainGlobals mg)
    {f0 : Addr} {od0 an0 : Option Addr} {sl0 : Array (Option Value)} {oc0 kV0 dc0 pm0 cd0 ct0 : Value}
        (a0 : PySem.W.nsIn K mainGlobals "is_whole_records" = some (some (.ref f0))) (l0 : K.lookup f0 = some ⟨oc0, od0, .func (PySem.W.fnOf "is_whole" "is_whole" (defArgs st_is_whole_records) (defBody st_is_whole_records) (defScope st_is_whole_records) .none kV0 dc0 pm0 an0 cd0 ct0), sl0⟩) (c0 : PySem.W.codeIn K cd0 "is_whole" = true) (k0 : PySem.W.keepIn K (.ref f0) = true)
    {f1 : Addr} {od1 an1 : Option Addr} {sl1 : Array (Option Value)} {oc1 kV1 dc1 pm1 cd1 ct1 : Value}
        (a1 : PySem.W.nsIn K mainGlobals "is_many" = some (some (.ref f1))) (l1 : K.lookup f1 = some ⟨oc1, od1, .func (PySem.W.fnOf "is_many" "is_many" (defArgs st_is_many) (defBody st_is_many) (defScope st_is_many) .none kV1 dc1 pm1 an1 cd1 ct1), sl1⟩) (c1 : PySem.W.codeIn K cd1 "is_many" = true) (k1 : PySem.W.keepIn K (.ref f1) = true)
    {f2 : Addr} {od2 an2 : Option Addr} {sl2 : Array (Option Value)} {oc2 kV2 dc2 pm2 cd2 ct2 : Value}
        (a2 : PySem.W.nsIn K mainGlobals "is_place" = some (some (.ref f2))) (l2 : K.lookup f2 = some ⟨oc2, od2, .func (PySem.W.fnOf "is_place" "is_place" (defArgs st_is_place) (defBody st_is_place) (defScope st_is_place) .none kV2 dc2 pm2 an2 cd2 ct2), sl2⟩) (c2 : PySem.W.codeIn K cd2 "is_place" = true) (k2 : PySem.W.keepIn K (.ref f2) = true)
    {f3 : Addr} {od3 an3 : Option Addr} {sl3 : Array (Option Value)} {oc3 kV3 dc3 pm3 cd3 ct3 : Value}
        (a3 : PySem.W.nsIn K mainGlobals "is_moment" = some (some (.ref f3))) (l3 : K.lookup f3 = some ⟨oc3, od3, .func (PySem.W.fnOf "is_moment" "is_moment" (defArgs st_is_moment) (defBody st_is_moment) (defScope st_is_moment) .none kV3 dc3 pm3 an3 cd3 ct3), sl3⟩) (c3 : PySem.W.codeIn K cd3 "is_moment" = true) (k3 : PySem.W.keepIn K (.ref f3) = true)
    {f4 : Addr} {od4 an4 : Option Addr} {sl4 : Array (Option Value)} {oc4 kV4 dc4 pm4 cd4 ct4 : Value}
        (a4 : PySem.W.nsIn K mainGlobals "is_meeting" = some (some (.ref f4))) (l4 : K.lookup f4 = some ⟨oc4, od4, .func (PySem.W.fnOf "is_meeting" "is_meeting" (defArgs st_is_meeting) (defBody st_is_meeting) (defScope st_is_meeting) .none kV4 dc4 pm4 an4 cd4 ct4), sl4⟩) (c4 : PySem.W.codeIn K cd4 "is_meeting" = true) (k4 : PySem.W.keepIn K (.ref f4) = true)
    {f5 : Addr} {od5 an5 : Option Addr} {sl5 : Array (Option Value)} {oc5 kV5 dc5 pm5 cd5 ct5 : Value}
        (a5 : PySem.W.nsIn K mainGlobals "record_of" = some (some (.ref f5))) (l5 : K.lookup f5 = some ⟨oc5, od5, .func (PySem.W.fnOf "record_of" "record_of" (defArgs st_record_of) (defBody st_record_of) (defScope st_record_of) .none kV5 dc5 pm5 an5 cd5 ct5), sl5⟩) (c5 : PySem.W.codeIn K cd5 "record_of" = true) (k5 : PySem.W.keepIn K (.ref f5) = true)
    {f6 : Addr} {od6 an6 : Option Addr} {sl6 : Array (Option Value)} {oc6 kV6 dc6 pm6 cd6 ct6 : Value}
        (a6 : PySem.W.nsIn K mainGlobals "is_whole_orders" = some (some (.ref f6))) (l6 : K.lookup f6 = some ⟨oc6, od6, .func (PySem.W.fnOf "is_whole" "is_whole" (defArgs st_is_whole_orders) (defBody st_is_whole_orders) (defScope st_is_whole_orders) .none kV6 dc6 pm6 an6 cd6 ct6), sl6⟩) (c6 : PySem.W.codeIn K cd6 "is_whole" = true) (k6 : PySem.W.keepIn K (.ref f6) = true)
    {f7 : Addr} {od7 an7 : Option Addr} {sl7 : Array (Option Value)} {oc7 kV7 dc7 pm7 cd7 ct7 : Value}
        (a7 : PySem.W.nsIn K mainGlobals "is_heavy_tie" = some (some (.ref f7))) (l7 : K.lookup f7 = some ⟨oc7, od7, .func (PySem.W.fnOf "is_heavy_tie" "is_heavy_tie" (defArgs st_is_heavy_tie) (defBody st_is_heavy_tie) (defScope st_is_heavy_tie) .none kV7 dc7 pm7 an7 cd7 ct7), sl7⟩) (c7 : PySem.W.codeIn K cd7 "is_heavy_tie" = true) (k7 : PySem.W.keepIn K (.ref f7) = true)
    {f8 : Addr} {od8 an8 : Option Addr} {sl8 : Array (Option Value)} {oc8 kV8 dc8 pm8 cd8 ct8 : Value}
        (a8 : PySem.W.nsIn K mainGlobals "look_at_heavy" = some (some (.ref f8))) (l8 : K.lookup f8 = some ⟨oc8, od8, .func (PySem.W.fnOf "look_at_heavy" "look_at_heavy" (defArgs st_look_at_heavy) (defBody st_look_at_heavy) (defScope st_look_at_heavy) .none kV8 dc8 pm8 an8 cd8 ct8), sl8⟩) (c8 : PySem.W.codeIn K cd8 "look_at_heavy" = true) (k8 : PySem.W.keepIn K (.ref f8) = true)
    {f9 : Addr} {od9 an9 : Option Addr} {sl9 : Array (Option Value)} {oc9 kV9 dc9 pm9 cd9 ct9 : Value}
        (a9 : PySem.W.nsIn K mainGlobals "next_place" = some (some (.ref f9))) (l9 : K.lookup f9 = some ⟨oc9, od9, .func (PySem.W.fnOf "next_place" "next_place" (defArgs st_next_place) (defBody st_next_place) (defScope st_next_place) .none kV9 dc9 pm9 an9 cd9 ct9), sl9⟩) (c9 : PySem.W.codeIn K cd9 "next_place" = true) (k9 : PySem.W.keepIn K (.ref f9) = true)
    {f10 : Addr} {od10 an10 : Option Addr} {sl10 : Array (Option Value)} {oc10 kV10 dc10 pm10 cd10 ct10 : Value}
        {T10 : Addr} {toc10 : Value} {tod10 : Option Addr} {tsl10 : Array (Option Value)} {tn10 : Nat} {tt10 : Tok}
        (a10 : PySem.W.nsIn K mainGlobals "order" = some (some (.ref f10))) (l10 : K.lookup f10 = some ⟨oc10, od10, .func (PySem.W.fnOf "order" "order" (defArgs st_order) (defBody st_order) (defScope st_order) (.ref T10) kV10 dc10 pm10 an10 cd10 ct10), sl10⟩) (c10 : PySem.W.codeIn K cd10 "order" = true) (k10 : PySem.W.keepIn K (.ref f10) = true)
        (e10 : K.lookup T10 = some ⟨toc10, tod10, .seq #[.int (0) tt10] tn10, tsl10⟩)
    {f11 : Addr} {od11 an11 : Option Addr} {sl11 : Array (Option Value)} {oc11 kV11 dc11 pm11 cd11 ct11 : Value}
        (a11 : PySem.W.nsIn K mainGlobals "bands" = some (some (.ref f11))) (l11 : K.lookup f11 = some ⟨oc11, od11, .func (PySem.W.fnOf "bands" "bands" (defArgs st_bands) (defBody st_bands) (defScope st_bands) .none kV11 dc11 pm11 an11 cd11 ct11), sl11⟩) (c11 : PySem.W.codeIn K cd11 "bands" = true) (k11 : PySem.W.keepIn K (.ref f11) = true)
    {f12 : Addr} {od12 an12 : Option Addr} {sl12 : Array (Option Value)} {oc12 kV12 dc12 pm12 cd12 ct12 : Value}
        (a12 : PySem.W.nsIn K mainGlobals "heads" = some (some (.ref f12))) (l12 : K.lookup f12 = some ⟨oc12, od12, .func (PySem.W.fnOf "heads" "heads" (defArgs st_heads) (defBody st_heads) (defScope st_heads) .none kV12 dc12 pm12 an12 cd12 ct12), sl12⟩) (c12 : PySem.W.codeIn K cd12 "heads" = true) (k12 : PySem.W.keepIn K (.ref f12) = true)
    {f13 : Addr} {od13 an13 : Option Addr} {sl13 : Array (Option Value)} {oc13 kV13 dc13 pm13 cd13 ct13 : Value}
        (a13 : PySem.W.nsIn K mainGlobals "_law_cell_at" = some (some (.ref f13))) (l13 : K.lookup f13 = some ⟨oc13, od13, .func (PySem.W.fnOf "_law_cell_at" "_law_cell_at" (defArgs st_l_cell_at) (defBody st_l_cell_at) (defScope st_l_cell_at) .none kV13 dc13 pm13 an13 cd13 ct13), sl13⟩) (c13 : PySem.W.codeIn K cd13 "_law_cell_at" = true) (k13 : PySem.W.keepIn K (.ref f13) = true)
    {f14 : Addr} {od14 an14 : Option Addr} {sl14 : Array (Option Value)} {oc14 kV14 dc14 pm14 cd14 ct14 : Value}
        (a14 : PySem.W.nsIn K mainGlobals "_law_pool" = some (some (.ref f14))) (l14 : K.lookup f14 = some ⟨oc14, od14, .func (PySem.W.fnOf "_law_pool" "_law_pool" (defArgs st_l_pool) (defBody st_l_pool) (defScope st_l_pool) .none kV14 dc14 pm14 an14 cd14 ct14), sl14⟩) (c14 : PySem.W.codeIn K cd14 "_law_pool" = true) (k14 : PySem.W.keepIn K (.ref f14) = true)
    {f15 : Addr} {od15 an15 : Option Addr} {sl15 : Array (Option Value)} {oc15 kV15 dc15 pm15 cd15 ct15 : Value}
        (a15 : PySem.W.nsIn K mainGlobals "_law_take" = some (some (.ref f15))) (l15 : K.lookup f15 = some ⟨oc15, od15, .func (PySem.W.fnOf "_law_take" "_law_take" (defArgs st_l_take) (defBody st_l_take) (defScope st_l_take) .none kV15 dc15 pm15 an15 cd15 ct15), sl15⟩) (c15 : PySem.W.codeIn K cd15 "_law_take" = true) (k15 : PySem.W.keepIn K (.ref f15) = true)
    {f16 : Addr} {od16 an16 : Option Addr} {sl16 : Array (Option Value)} {oc16 kV16 dc16 pm16 cd16 ct16 : Value}
        (a16 : PySem.W.nsIn K mainGlobals "_law_heavy" = some (some (.ref f16))) (l16 : K.lookup f16 = some ⟨oc16, od16, .func (PySem.W.fnOf "_law_heavy" "_law_heavy" (defArgs st_l_heavy) (defBody st_l_heavy) (defScope st_l_heavy) .none kV16 dc16 pm16 an16 cd16 ct16), sl16⟩) (c16 : PySem.W.codeIn K cd16 "_law_heavy" = true) (k16 : PySem.W.keepIn K (.ref f16) = true)
    {f17 : Addr} {od17 an17 : Option Addr} {sl17 : Array (Option Value)} {oc17 kV17 dc17 pm17 cd17 ct17 : Value}
        (a17 : PySem.W.nsIn K mainGlobals "_law_whole" = some (some (.ref f17))) (l17 : K.lookup f17 = some ⟨oc17, od17, .func (PySem.W.fnOf "_law_whole" "_law_whole" (defArgs st_l_whole) (defBody st_l_whole) (defScope st_l_whole) .none kV17 dc17 pm17 an17 cd17 ct17), sl17⟩) (c17 : PySem.W.codeIn K cd17 "_law_whole" = true) (k17 : PySem.W.keepIn K (.ref f17) = true)
    {f18 : Addr} {od18 an18 : Option Addr} {sl18 : Array (Option Value)} {oc18 kV18 dc18 pm18 cd18 ct18 : Value}
        (a18 : PySem.W.nsIn K mainGlobals "_law_order" = some (some (.ref f18))) (l18 : K.lookup f18 = some ⟨oc18, od18, .func (PySem.W.fnOf "_law_order" "_law_order" (defArgs st_l_order) (defBody st_l_order) (defScope st_l_order) .none kV18 dc18 pm18 an18 cd18 ct18), sl18⟩) (c18 : PySem.W.codeIn K cd18 "_law_order" = true) (k18 : PySem.W.keepIn K (.ref f18) = true)
    {f19 : Addr} {od19 an19 : Option Addr} {sl19 : Array (Option Value)} {oc19 kV19 dc19 pm19 cd19 ct19 : Value}
        (a19 : PySem.W.nsIn K mainGlobals "_law_bands" = some (some (.ref f19))) (l19 : K.lookup f19 = some ⟨oc19, od19, .func (PySem.W.fnOf "_law_bands" "_law_bands" (defArgs st_l_bands) (defBody st_l_bands) (defScope st_l_bands) .none kV19 dc19 pm19 an19 cd19 ct19), sl19⟩) (c19 : PySem.W.codeIn K cd19 "_law_bands" = true) (k19 : PySem.W.keepIn K (.ref f19) = true)
    {f20 : Addr} {od20 an20 : Option Addr} {sl20 : Array (Option Value)} {oc20 kV20 dc20 pm20 cd20 ct20 : Value}
        (a20 : PySem.W.nsIn K mainGlobals "_law_are" = some (some (.ref f20))) (l20 : K.lookup f20 = some ⟨oc20, od20, .func (PySem.W.fnOf "_law_are" "_law_are" (defArgs st_l_are) (defBody st_l_are) (defScope st_l_are) .none kV20 dc20 pm20 an20 cd20 ct20), sl20⟩) (c20 : PySem.W.codeIn K cd20 "_law_are" = true) (k20 : PySem.W.keepIn K (.ref f20) = true)
    {f21 : Addr} {od21 an21 : Option Addr} {sl21 : Array (Option Value)} {oc21 kV21 dc21 pm21 cd21 ct21 : Value}
        (a21 : PySem.W.nsIn K mainGlobals "_law_mixed_up" = some (some (.ref f21))) (l21 : K.lookup f21 = some ⟨oc21, od21, .func (PySem.W.fnOf "_law_mixed_up" "_law_mixed_up" (defArgs st_l_mixed_up) (defBody st_l_mixed_up) (defScope st_l_mixed_up) .none kV21 dc21 pm21 an21 cd21 ct21), sl21⟩) (c21 : PySem.W.codeIn K cd21 "_law_mixed_up" = true) (k21 : PySem.W.keepIn K (.ref f21) = true)
    {f22 : Addr} {od22 an22 : Option Addr} {sl22 : Array (Option Value)} {oc22 kV22 dc22 pm22 cd22 ct22 : Value}
        (a22 : PySem.W.nsIn K mainGlobals "_law_heads" = some (some (.ref f22))) (l22 : K.lookup f22 = some ⟨oc22, od22, .func (PySem.W.fnOf "_law_heads" "_law_heads" (defArgs st_l_heads) (defBody st_l_heads) (defScope st_l_heads) .none kV22 dc22 pm22 an22 cd22 ct22), sl22⟩) (c22 : PySem.W.codeIn K cd22 "_law_heads" = true) (k22 : PySem.W.keepIn K (.ref f22) = true)
    {f23 : Addr} {od23 an23 : Option Addr} {sl23 : Array (Option Value)} {oc23 kV23 dc23 pm23 cd23 ct23 : Value}
        (a23 : PySem.W.nsIn K mainGlobals "law" = some (some (.ref f23))) (l23 : K.lookup f23 = some ⟨oc23, od23, .func (PySem.W.fnOf "law" "law" (defArgs st_law) (defBody st_law) (defScope st_law) .none kV23 dc23 pm23 an23 cd23 ct23), sl23⟩) (c23 : PySem.W.codeIn K cd23 "law" = true) (k23 : PySem.W.keepIn K (.ref f23) = true)
        (z_isinstance : PySem.W.nsIn K mainGlobals "isinstance" = some none)
        (z_int : PySem.W.nsIn K mainGlobals "int" = some none)
        (z_bool : PySem.W.nsIn K mainGlobals "bool" = some none)
        (z_tuple : PySem.W.nsIn K mainGlobals "tuple" = some none)
        (z_len : PySem.W.nsIn K mainGlobals "len" = some none)
        (z_list : PySem.W.nsIn K mainGlobals "list" = some none)
        (z_all : PySem.W.nsIn K mainGlobals "all" = some none)
        (z_min : PySem.W.nsIn K mainGlobals "min" = some none)
        (z_max : PySem.W.nsIn K mainGlobals "max" = some none)
        (z_sorted : PySem.W.nsIn K mainGlobals "sorted" = some none)
        (z_range : PySem.W.nsIn K mainGlobals "range" = some none)
        (z_enumerate : PySem.W.nsIn K mainGlobals "enumerate" = some none)
        (z_sum : PySem.W.nsIn K mainGlobals "sum" = some none)
        {tk_MOST_PLACES : Tok} (y_MOST_PLACES : PySem.W.nsIn K mainGlobals "MOST_PLACES" = some (some (.int (10) tk_MOST_PLACES)))
        {tk_LAST_MOMENT : Tok} (y_LAST_MOMENT : PySem.W.nsIn K mainGlobals "LAST_MOMENT" = some (some (.int (1000000000000000000000000000000) tk_LAST_MOMENT)))
        {tk_MOST_TIES_records : Tok} (y_MOST_TIES_records : PySem.W.nsIn K mainGlobals "MOST_TIES_records" = some (some (.int (60) tk_MOST_TIES_records)))
        {tk_HEAVIEST : Tok} (y_HEAVIEST : PySem.W.nsIn K mainGlobals "HEAVIEST" = some (some (.int (1000000000000000000000000000000) tk_HEAVIEST)))
        {tk_MOST_TIES_orders : Tok} (y_MOST_TIES_orders : PySem.W.nsIn K mainGlobals "MOST_TIES_orders" = some (some (.int (40) tk_MOST_TIES_orders))) : Tx K mg where
  a_is_whole_records := f0
  d_is_whole_records := _
  F_is_whole_records := fun_mk (st := st_is_whole_records) l0 c0 k0
  m_is_whole_records := PySem.W.mg_of X G a0
  b_is_whole_records := (fun_mk (st := st_is_whole_records) l0 c0 k0).binds fun _ _ _ _ _ _ us hl => match us, hl with | [_], _ => rfl
  a_is_many := f1
  d_is_many := _
  F_is_many := fun_mk (st := st_is_many) l1 c1 k1
  m_is_many := PySem.W.mg_of X G a1
  b_is_many := (fun_mk (st := st_is_many) l1 c1 k1).binds fun _ _ _ _ _ _ us hl => match us, hl with | [_], _ => rfl
  a_is_place := f2
  d_is_place := _
  F_is_place := fun_mk (st := st_is_place) l2 c2 k2
  m_is_place := PySem.W.mg_of X G a2
  b_is_place := (fun_mk (st := st_is_place) l2 c2 k2).binds fun _ _ _ _ _ _ us hl => match us, hl with | [_, _], _ => rfl
  a_is_moment := f3
  d_is_moment := _
  F_is_moment := fun_mk (st := st_is_moment) l3 c3 k3
  m_is_moment := PySem.W.mg_of X G a3
  b_is_moment := (fun_mk (st := st_is_moment) l3 c3 k3).binds fun _ _ _ _ _ _ us hl => match us, hl with | [_], _ => rfl
  a_is_meeting := f4
  d_is_meeting := _
  F_is_meeting := fun_mk (st := st_is_meeting) l4 c4 k4
  m_is_meeting := PySem.W.mg_of X G a4
  b_is_meeting := (fun_mk (st := st_is_meeting) l4 c4 k4).binds fun _ _ _ _ _ _ us hl => match us, hl with | [_, _], _ => rfl
  a_record_of := f5
  d_record_of := _
  F_record_of := fun_mk (st := st_record_of) l5 c5 k5
  m_record_of := PySem.W.mg_of X G a5
  b_record_of := (fun_mk (st := st_record_of) l5 c5 k5).binds fun _ _ _ _ _ _ us hl => match us, hl with | [_, _], _ => rfl
  a_is_whole_orders := f6
  d_is_whole_orders := _
  F_is_whole_orders := fun_mk (st := st_is_whole_orders) l6 c6 k6
  m_is_whole_orders := PySem.W.mg_of X G a6
  b_is_whole_orders := (fun_mk (st := st_is_whole_orders) l6 c6 k6).binds fun _ _ _ _ _ _ us hl => match us, hl with | [_], _ => rfl
  a_is_heavy_tie := f7
  d_is_heavy_tie := _
  F_is_heavy_tie := fun_mk (st := st_is_heavy_tie) l7 c7 k7
  m_is_heavy_tie := PySem.W.mg_of X G a7
  b_is_heavy_tie := (fun_mk (st := st_is_heavy_tie) l7 c7 k7).binds fun _ _ _ _ _ _ us hl => match us, hl with | [_, _], _ => rfl
  a_look_at_heavy := f8
  d_look_at_heavy := _
  F_look_at_heavy := fun_mk (st := st_look_at_heavy) l8 c8 k8
  m_look_at_heavy := PySem.W.mg_of X G a8
  b_look_at_heavy := (fun_mk (st := st_look_at_heavy) l8 c8 k8).binds fun _ _ _ _ _ _ us hl => match us, hl with | [_, _], _ => rfl
  a_next_place := f9
  d_next_place := _
  F_next_place := fun_mk (st := st_next_place) l9 c9 k9
  m_next_place := PySem.W.mg_of X G a9
  b_next_place := (fun_mk (st := st_next_place) l9 c9 k9).binds fun _ _ _ _ _ _ us hl => match us, hl with | [_, _], _ => rfl
  a_order := f10
  d_order := _
  F_order := ⟨⟨_, _, _, _, _, _, _, _, _, _, rfl, l10, c10, dflI e10 rfl, .inl rfl⟩, k10⟩
  m_order := PySem.W.mg_of X G a10
  b_order := bindsD (dvs := [V.int (0)]) (kws := []) (f := f10) (params := defArgs st_order) (body := defBody st_order) (scope := defScope st_order) ⟨⟨_, _, _, _, _, _, _, _, _, _, rfl, l10, c10, dflI e10 rfl, .inl rfl⟩, k10⟩ (fun z => nomatch z) fun _ _ _ _ _ _ _ us its h1 h2 => match us, h1, its, h2 with | [_, _, _], _, [_], _ => ⟨_, rfl, rfl⟩
  a_bands := f11
  d_bands := _
  F_bands := fun_mk (st := st_bands) l11 c11 k11
  m_bands := PySem.W.mg_of X G a11
  b_bands := (fun_mk (st := st_bands) l11 c11 k11).binds fun _ _ _ _ _ _ us hl => match us, hl with | [_, _, _], _ => rfl
  a_heads := f12
  d_heads := _
  F_heads := fun_mk (st := st_heads) l12 c12 k12
  m_heads := PySem.W.mg_of X G a12
  b_heads := (fun_mk (st := st_heads) l12 c12 k12).binds fun _ _ _ _ _ _ us hl => match us, hl with | [_, _], _ => rfl
  a_l_cell_at := f13
  d_l_cell_at := _
  F_l_cell_at := fun_mk (st := st_l_cell_at) l13 c13 k13
  m_l_cell_at := PySem.W.mg_of X G a13
  b_l_cell_at := (fun_mk (st := st_l_cell_at) l13 c13 k13).binds fun _ _ _ _ _ _ us hl => match us, hl with | [_, _], _ => rfl
  a_l_pool := f14
  d_l_pool := _
  F_l_pool := fun_mk (st := st_l_pool) l14 c14 k14
  m_l_pool := PySem.W.mg_of X G a14
  b_l_pool := (fun_mk (st := st_l_pool) l14 c14 k14).binds fun _ _ _ _ _ _ us hl => match us, hl with | [_, _], _ => rfl
  a_l_take := f15
  d_l_take := _
  F_l_take := fun_mk (st := st_l_take) l15 c15 k15
  m_l_take := PySem.W.mg_of X G a15
  b_l_take := (fun_mk (st := st_l_take) l15 c15 k15).binds fun _ _ _ _ _ _ us hl => match us, hl with | [_, _], _ => rfl
  a_l_heavy := f16
  d_l_heavy := _
  F_l_heavy := fun_mk (st := st_l_heavy) l16 c16 k16
  m_l_heavy := PySem.W.mg_of X G a16
  b_l_heavy := (fun_mk (st := st_l_heavy) l16 c16 k16).binds fun _ _ _ _ _ _ us hl => match us, hl with | [_, _, _], _ => rfl
  a_l_whole := f17
  d_l_whole := _
  F_l_whole := fun_mk (st := st_l_whole) l17 c17 k17
  m_l_whole := PySem.W.mg_of X G a17
  b_l_whole := (fun_mk (st := st_l_whole) l17 c17 k17).binds fun _ _ _ _ _ _ us hl => match us, hl with | [_], _ => rfl
  a_l_order := f18
  d_l_order := _
  F_l_order := fun_mk (st := st_l_order) l18 c18 k18
  m_l_order := PySem.W.mg_of X G a18
  b_l_order := (fun_mk (st := st_l_order) l18 c18 k18).binds fun _ _ _ _ _ _ us hl => match us, hl with | [_, _, _], _ => rfl
  a_l_bands := f19
  d_l_bands := _
  F_l_bands := fun_mk (st := st_l_bands) l19 c19 k19
  m_l_bands := PySem.W.mg_of X G a19
  b_l_bands := (fun_mk (st := st_l_bands) l19 c19 k19).binds fun _ _ _ _ _ _ us hl => match us, hl with | [_, _], _ => rfl
  a_l_are := f20
  d_l_are := _
  F_l_are := fun_mk (st := st_l_are) l20 c20 k20
  m_l_are := PySem.W.mg_of X G a20
  b_l_are := (fun_mk (st := st_l_are) l20 c20 k20).binds fun _ _ _ _ _ _ us hl => match us, hl with | [_, _], _ => rfl
  a_l_mixed_up := f21
  d_l_mixed_up := _
  F_l_mixed_up := fun_mk (st := st_l_mixed_up) l21 c21 k21
  m_l_mixed_up := PySem.W.mg_of X G a21
  b_l_mixed_up := (fun_mk (st := st_l_mixed_up) l21 c21 k21).binds fun _ _ _ _ _ _ us hl => match us, hl with | [_, _], _ => rfl
  a_l_heads := f22
  d_l_heads := _
  F_l_heads := fun_mk (st := st_l_heads) l22 c22 k22
  m_l_heads := PySem.W.mg_of X G a22
  b_l_heads := (fun_mk (st := st_l_heads) l22 c22 k22).binds fun _ _ _ _ _ _ us hl => match us, hl with | [_, _], _ => rfl
  a_law := f23
  d_law := _
  F_law := fun_mk (st := st_law) l23 c23 k23
  m_law := PySem.W.mg_of X G a23
  b_law := (fun_mk (st := st_law) l23 c23 k23).binds fun _ _ _ _ _ _ us hl => match us, hl with | [_], _ => rfl
  n_isinstance := PySem.W.mg_none_of X G z_isinstance
  n_int := PySem.W.mg_none_of X G z_int
  n_bool := PySem.W.mg_none_of X G z_bool
  n_tuple := PySem.W.mg_none_of X G z_tuple
  n_len := PySem.W.mg_none_of X G z_len
  n_list := PySem.W.mg_none_of X G z_list
  n_all := PySem.W.mg_none_of X G z_all
  n_min := PySem.W.mg_none_of X G z_min
  n_max := PySem.W.mg_none_of X G z_max
  n_sorted := PySem.W.mg_none_of X G z_sorted
  n_range := PySem.W.mg_none_of X G z_range
  n_enumerate := PySem.W.mg_none_of X G z_enumerate
  n_sum := PySem.W.mg_none_of X G z_sum
  c_MOST_PLACES := ⟨tk_MOST_PLACES, PySem.W.mg_of X G y_MOST_PLACES⟩
  c_LAST_MOMENT := ⟨tk_LAST_MOMENT, PySem.W.mg_of X G y_LAST_MOMENT⟩
  c_MOST_TIES_records := ⟨tk_MOST_TIES_records, PySem.W.mg_of X G y_MOST_TIES_records⟩
  c_HEAVIEST := ⟨tk_HEAVIEST, PySem.W.mg_of X G y_HEAVIEST⟩
  c_MOST_TIES_orders := ⟨tk_MOST_TIES_orders, PySem.W.mg_of X G y_MOST_TIES_orders⟩
theorem all_mk {l : PySem.W.OpenLaw} {fa : Addr} (X : K.In h) (G : h.Ns mainGlobals mg) (hfa : mg "law" = some (.ref fa))
    {f0 : Addr} {od0 an0 : Option Addr} {sl0 : Array (Option Value)} {oc0 kV0 dc0 pm0 cd0 ct0 : Value}
        (a0 : PySem.W.nsIn K mainGlobals "is_whole_records" = some (some (.ref f0))) (l0 : K.lookup f0 = some ⟨oc0, od0, .func (PySem.W.fnOf "is_whole" "is_whole" (defArgs st_is_whole_records) (defBody st_is_whole_records) (defScope st_is_whole_records) .none kV0 dc0 pm0 an0 cd0 ct0), sl0⟩) (c0 : PySem.W.codeIn K cd0 "is_whole" = true) (k0 : PySem.W.keepIn K (.ref f0) = true)
    {f1 : Addr} {od1 an1 : Option Addr} {sl1 : Array (Option Value)} {oc1 kV1 dc1 pm1 cd1 ct1 : Value}
        (a1 : PySem.W.nsIn K mainGlobals "is_many" = some (some (.ref f1))) (l1 : K.lookup f1 = some ⟨oc1, od1, .func (PySem.W.fnOf "is_many" "is_many" (defArgs st_is_many) (defBody st_is_many) (defScope st_is_many) .none kV1 dc1 pm1 an1 cd1 ct1), sl1⟩) (c1 : PySem.W.codeIn K cd1 "is_many" = true) (k1 : PySem.W.keepIn K (.ref f1) = true)
    {f2 : Addr} {od2 an2 : Option Addr} {sl2 : Array (Option Value)} {oc2 kV2 dc2 pm2 cd2 ct2 : Value}
        (a2 : PySem.W.nsIn K mainGlobals "is_place" = some (some (.ref f2))) (l2 : K.lookup f2 = some ⟨oc2, od2, .func (PySem.W.fnOf "is_place" "is_place" (defArgs st_is_place) (defBody st_is_place) (defScope st_is_place) .none kV2 dc2 pm2 an2 cd2 ct2), sl2⟩) (c2 : PySem.W.codeIn K cd2 "is_place" = true) (k2 : PySem.W.keepIn K (.ref f2) = true)
    {f3 : Addr} {od3 an3 : Option Addr} {sl3 : Array (Option Value)} {oc3 kV3 dc3 pm3 cd3 ct3 : Value}
        (a3 : PySem.W.nsIn K mainGlobals "is_moment" = some (some (.ref f3))) (l3 : K.lookup f3 = some ⟨oc3, od3, .func (PySem.W.fnOf "is_moment" "is_moment" (defArgs st_is_moment) (defBody st_is_moment) (defScope st_is_moment) .none kV3 dc3 pm3 an3 cd3 ct3), sl3⟩) (c3 : PySem.W.codeIn K cd3 "is_moment" = true) (k3 : PySem.W.keepIn K (.ref f3) = true)
    {f4 : Addr} {od4 an4 : Option Addr} {sl4 : Array (Option Value)} {oc4 kV4 dc4 pm4 cd4 ct4 : Value}
        (a4 : PySem.W.nsIn K mainGlobals "is_meeting" = some (some (.ref f4))) (l4 : K.lookup f4 = some ⟨oc4, od4, .func (PySem.W.fnOf "is_meeting" "is_meeting" (defArgs st_is_meeting) (defBody st_is_meeting) (defScope st_is_meeting) .none kV4 dc4 pm4 an4 cd4 ct4), sl4⟩) (c4 : PySem.W.codeIn K cd4 "is_meeting" = true) (k4 : PySem.W.keepIn K (.ref f4) = true)
    {f5 : Addr} {od5 an5 : Option Addr} {sl5 : Array (Option Value)} {oc5 kV5 dc5 pm5 cd5 ct5 : Value}
        (a5 : PySem.W.nsIn K mainGlobals "record_of" = some (some (.ref f5))) (l5 : K.lookup f5 = some ⟨oc5, od5, .func (PySem.W.fnOf "record_of" "record_of" (defArgs st_record_of) (defBody st_record_of) (defScope st_record_of) .none kV5 dc5 pm5 an5 cd5 ct5), sl5⟩) (c5 : PySem.W.codeIn K cd5 "record_of" = true) (k5 : PySem.W.keepIn K (.ref f5) = true)
    {f6 : Addr} {od6 an6 : Option Addr} {sl6 : Array (Option Value)} {oc6 kV6 dc6 pm6 cd6 ct6 : Value}
        (a6 : PySem.W.nsIn K mainGlobals "is_whole_orders" = some (some (.ref f6))) (l6 : K.lookup f6 = some ⟨oc6, od6, .func (PySem.W.fnOf "is_whole" "is_whole" (defArgs st_is_whole_orders) (defBody st_is_whole_orders) (defScope st_is_whole_orders) .none kV6 dc6 pm6 an6 cd6 ct6), sl6⟩) (c6 : PySem.W.codeIn K cd6 "is_whole" = true) (k6 : PySem.W.keepIn K (.ref f6) = true)
    {f7 : Addr} {od7 an7 : Option Addr} {sl7 : Array (Option Value)} {oc7 kV7 dc7 pm7 cd7 ct7 : Value}
        (a7 : PySem.W.nsIn K mainGlobals "is_heavy_tie" = some (some (.ref f7))) (l7 : K.lookup f7 = some ⟨oc7, od7, .func (PySem.W.fnOf "is_heavy_tie" "is_heavy_tie" (defArgs st_is_heavy_tie) (defBody st_is_heavy_tie) (defScope st_is_heavy_tie) .none kV7 dc7 pm7 an7 cd7 ct7), sl7⟩) (c7 : PySem.W.codeIn K cd7 "is_heavy_tie" = true) (k7 : PySem.W.keepIn K (.ref f7) = true)
    {f8 : Addr} {od8 an8 : Option Addr} {sl8 : Array (Option Value)} {oc8 kV8 dc8 pm8 cd8 ct8 : Value}
        (a8 : PySem.W.nsIn K mainGlobals "look_at_heavy" = some (some (.ref f8))) (l8 : K.lookup f8 = some ⟨oc8, od8, .func (PySem.W.fnOf "look_at_heavy" "look_at_heavy" (defArgs st_look_at_heavy) (defBody st_look_at_heavy) (defScope st_look_at_heavy) .none kV8 dc8 pm8 an8 cd8 ct8), sl8⟩) (c8 : PySem.W.codeIn K cd8 "look_at_heavy" = true) (k8 : PySem.W.keepIn K (.ref f8) = true)
    {f9 : Addr} {od9 an9 : Option Addr} {sl9 : Array (Option Value)} {oc9 kV9 dc9 pm9 cd9 ct9 : Value}
        (a9 : PySem.W.nsIn K mainGlobals "next_place" = some (some (.ref f9))) (l9 : K.lookup f9 = some ⟨oc9, od9, .func (PySem.W.fnOf "next_place" "next_place" (defArgs st_next_place) (defBody st_next_place) (defScope st_next_place) .none kV9 dc9 pm9 an9 cd9 ct9), sl9⟩) (c9 : PySem.W.codeIn K cd9 "next_place" = true) (k9 : PySem.W.keepIn K (.ref f9) = true)
    {f10 : Addr} {od10 an10 : Option Addr} {sl10 : Array (Option Value)} {oc10 kV10 dc10 pm10 cd10 ct10 : Value}
        {T10 : Addr} {toc10 : Value} {tod10 : Option Addr} {tsl10 : Array (Option Value)} {tn10 : Nat} {tt10 : Tok}
        (a10 : PySem.W.nsIn K mainGlobals "order" = some (some (.ref f10))) (l10 : K.lookup f10 = some ⟨oc10, od10, .func (PySem.W.fnOf "order" "order" (defArgs st_order) (defBody st_order) (defScope st_order) (.ref T10) kV10 dc10 pm10 an10 cd10 ct10), sl10⟩) (c10 : PySem.W.codeIn K cd10 "order" = true) (k10 : PySem.W.keepIn K (.ref f10) = true)
        (e10 : K.lookup T10 = some ⟨toc10, tod10, .seq #[.int (0) tt10] tn10, tsl10⟩)
    {f11 : Addr} {od11 an11 : Option Addr} {sl11 : Array (Option Value)} {oc11 kV11 dc11 pm11 cd11 ct11 : Value}
        (a11 : PySem.W.nsIn K mainGlobals "bands" = some (some (.ref f11))) (l11 : K.lookup f11 = some ⟨oc11, od11, .func (PySem.W.fnOf "bands" "bands" (defArgs st_bands) (defBody st_bands) (defScope st_bands) .none kV11 dc11 pm11 an11 cd11 ct11), sl11⟩) (c11 : PySem.W.codeIn K cd11 "bands" = true) (k11 : PySem.W.keepIn K (.ref f11) = true)
    {f12 : Addr} {od12 an12 : Option Addr} {sl12 : Array (Option Value)} {oc12 kV12 dc12 pm12 cd12 ct12 : Value}
        (a12 : PySem.W.nsIn K mainGlobals "heads" = some (some (.ref f12))) (l12 : K.lookup f12 = some ⟨oc12, od12, .func (PySem.W.fnOf "heads" "heads" (defArgs st_heads) (defBody st_heads) (defScope st_heads) .none kV12 dc12 pm12 an12 cd12 ct12), sl12⟩) (c12 : PySem.W.codeIn K cd12 "heads" = true) (k12 : PySem.W.keepIn K (.ref f12) = true)
    {f13 : Addr} {od13 an13 : Option Addr} {sl13 : Array (Option Value)} {oc13 kV13 dc13 pm13 cd13 ct13 : Value}
        (a13 : PySem.W.nsIn K mainGlobals "_law_cell_at" = some (some (.ref f13))) (l13 : K.lookup f13 = some ⟨oc13, od13, .func (PySem.W.fnOf "_law_cell_at" "_law_cell_at" (defArgs st_l_cell_at) (defBody st_l_cell_at) (defScope st_l_cell_at) .none kV13 dc13 pm13 an13 cd13 ct13), sl13⟩) (c13 : PySem.W.codeIn K cd13 "_law_cell_at" = true) (k13 : PySem.W.keepIn K (.ref f13) = true)
    {f14 : Addr} {od14 an14 : Option Addr} {sl14 : Array (Option Value)} {oc14 kV14 dc14 pm14 cd14 ct14 : Value}
        (a14 : PySem.W.nsIn K mainGlobals "_law_pool" = some (some (.ref f14))) (l14 : K.lookup f14 = some ⟨oc14, od14, .func (PySem.W.fnOf "_law_pool" "_law_pool" (defArgs st_l_pool) (defBody st_l_pool) (defScope st_l_pool) .none kV14 dc14 pm14 an14 cd14 ct14), sl14⟩) (c14 : PySem.W.codeIn K cd14 "_law_pool" = true) (k14 : PySem.W.keepIn K (.ref f14) = true)
    {f15 : Addr} {od15 an15 : Option Addr} {sl15 : Array (Option Value)} {oc15 kV15 dc15 pm15 cd15 ct15 : Value}
        (a15 : PySem.W.nsIn K mainGlobals "_law_take" = some (some (.ref f15))) (l15 : K.lookup f15 = some ⟨oc15, od15, .func (PySem.W.fnOf "_law_take" "_law_take" (defArgs st_l_take) (defBody st_l_take) (defScope st_l_take) .none kV15 dc15 pm15 an15 cd15 ct15), sl15⟩) (c15 : PySem.W.codeIn K cd15 "_law_take" = true) (k15 : PySem.W.keepIn K (.ref f15) = true)
    {f16 : Addr} {od16 an16 : Option Addr} {sl16 : Array (Option Value)} {oc16 kV16 dc16 pm16 cd16 ct16 : Value}
        (a16 : PySem.W.nsIn K mainGlobals "_law_heavy" = some (some (.ref f16))) (l16 : K.lookup f16 = some ⟨oc16, od16, .func (PySem.W.fnOf "_law_heavy" "_law_heavy" (defArgs st_l_heavy) (defBody st_l_heavy) (defScope st_l_heavy) .none kV16 dc16 pm16 an16 cd16 ct16), sl16⟩) (c16 : PySem.W.codeIn K cd16 "_law_heavy" = true) (k16 : PySem.W.keepIn K (.ref f16) = true)
    {f17 : Addr} {od17 an17 : Option Addr} {sl17 : Array (Option Value)} {oc17 kV17 dc17 pm17 cd17 ct17 : Value}
        (a17 : PySem.W.nsIn K mainGlobals "_law_whole" = some (some (.ref f17))) (l17 : K.lookup f17 = some ⟨oc17, od17, .func (PySem.W.fnOf "_law_whole" "_law_whole" (defArgs st_l_whole) (defBody st_l_whole) (defScope st_l_whole) .none kV17 dc17 pm17 an17 cd17 ct17), sl17⟩) (c17 : PySem.W.codeIn K cd17 "_law_whole" = true) (k17 : PySem.W.keepIn K (.ref f17) = true)
    {f18 : Addr} {od18 an18 : Option Addr} {sl18 : Array (Option Value)} {oc18 kV18 dc18 pm18 cd18 ct18 : Value}
        (a18 : PySem.W.nsIn K mainGlobals "_law_order" = some (some (.ref f18))) (l18 : K.lookup f18 = some ⟨oc18, od18, .func (PySem.W.fnOf "_law_order" "_law_order" (defArgs st_l_order) (defBody st_l_order) (defScope st_l_order) .none kV18 dc18 pm18 an18 cd18 ct18), sl18⟩) (c18 : PySem.W.codeIn K cd18 "_law_order" = true) (k18 : PySem.W.keepIn K (.ref f18) = true)
    {f19 : Addr} {od19 an19 : Option Addr} {sl19 : Array (Option Value)} {oc19 kV19 dc19 pm19 cd19 ct19 : Value}
        (a19 : PySem.W.nsIn K mainGlobals "_law_bands" = some (some (.ref f19))) (l19 : K.lookup f19 = some ⟨oc19, od19, .func (PySem.W.fnOf "_law_bands" "_law_bands" (defArgs st_l_bands) (defBody st_l_bands) (defScope st_l_bands) .none kV19 dc19 pm19 an19 cd19 ct19), sl19⟩) (c19 : PySem.W.codeIn K cd19 "_law_bands" = true) (k19 : PySem.W.keepIn K (.ref f19) = true)
    {f20 : Addr} {od20 an20 : Option Addr} {sl20 : Array (Option Value)} {oc20 kV20 dc20 pm20 cd20 ct20 : Value}
        (a20 : PySem.W.nsIn K mainGlobals "_law_are" = some (some (.ref f20))) (l20 : K.lookup f20 = some ⟨oc20, od20, .func (PySem.W.fnOf "_law_are" "_law_are" (defArgs st_l_are) (defBody st_l_are) (defScope st_l_are) .none kV20 dc20 pm20 an20 cd20 ct20), sl20⟩) (c20 : PySem.W.codeIn K cd20 "_law_are" = true) (k20 : PySem.W.keepIn K (.ref f20) = true)
    {f21 : Addr} {od21 an21 : Option Addr} {sl21 : Array (Option Value)} {oc21 kV21 dc21 pm21 cd21 ct21 : Value}
        (a21 : PySem.W.nsIn K mainGlobals "_law_mixed_up" = some (some (.ref f21))) (l21 : K.lookup f21 = some ⟨oc21, od21, .func (PySem.W.fnOf "_law_mixed_up" "_law_mixed_up" (defArgs st_l_mixed_up) (defBody st_l_mixed_up) (defScope st_l_mixed_up) .none kV21 dc21 pm21 an21 cd21 ct21), sl21⟩) (c21 : PySem.W.codeIn K cd21 "_law_mixed_up" = true) (k21 : PySem.W.keepIn K (.ref f21) = true)
    {f22 : Addr} {od22 an22 : Option Addr} {sl22 : Array (Option Value)} {oc22 kV22 dc22 pm22 cd22 ct22 : Value}
        (a22 : PySem.W.nsIn K mainGlobals "_law_heads" = some (some (.ref f22))) (l22 : K.lookup f22 = some ⟨oc22, od22, .func (PySem.W.fnOf "_law_heads" "_law_heads" (defArgs st_l_heads) (defBody st_l_heads) (defScope st_l_heads) .none kV22 dc22 pm22 an22 cd22 ct22), sl22⟩) (c22 : PySem.W.codeIn K cd22 "_law_heads" = true) (k22 : PySem.W.keepIn K (.ref f22) = true)
    {f23 : Addr} {od23 an23 : Option Addr} {sl23 : Array (Option Value)} {oc23 kV23 dc23 pm23 cd23 ct23 : Value}
        (a23 : PySem.W.nsIn K mainGlobals "law" = some (some (.ref f23))) (l23 : K.lookup f23 = some ⟨oc23, od23, .func (PySem.W.fnOf "law" "law" (defArgs st_law) (defBody st_law) (defScope st_law) .none kV23 dc23 pm23 an23 cd23 ct23), sl23⟩) (c23 : PySem.W.codeIn K cd23 "law" = true) (k23 : PySem.W.keepIn K (.ref f23) = true)
        (z_isinstance : PySem.W.nsIn K mainGlobals "isinstance" = some none)
        (z_int : PySem.W.nsIn K mainGlobals "int" = some none)
        (z_bool : PySem.W.nsIn K mainGlobals "bool" = some none)
        (z_tuple : PySem.W.nsIn K mainGlobals "tuple" = some none)
        (z_len : PySem.W.nsIn K mainGlobals "len" = some none)
        (z_list : PySem.W.nsIn K mainGlobals "list" = some none)
        (z_all : PySem.W.nsIn K mainGlobals "all" = some none)
        (z_min : PySem.W.nsIn K mainGlobals "min" = some none)
        (z_max : PySem.W.nsIn K mainGlobals "max" = some none)
        (z_sorted : PySem.W.nsIn K mainGlobals "sorted" = some none)
        (z_range : PySem.W.nsIn K mainGlobals "range" = some none)
        (z_enumerate : PySem.W.nsIn K mainGlobals "enumerate" = some none)
        (z_sum : PySem.W.nsIn K mainGlobals "sum" = some none)
        {tk_MOST_PLACES : Tok} (y_MOST_PLACES : PySem.W.nsIn K mainGlobals "MOST_PLACES" = some (some (.int (10) tk_MOST_PLACES)))
        {tk_LAST_MOMENT : Tok} (y_LAST_MOMENT : PySem.W.nsIn K mainGlobals "LAST_MOMENT" = some (some (.int (1000000000000000000000000000000) tk_LAST_MOMENT)))
        {tk_MOST_TIES_records : Tok} (y_MOST_TIES_records : PySem.W.nsIn K mainGlobals "MOST_TIES_records" = some (some (.int (60) tk_MOST_TIES_records)))
        {tk_HEAVIEST : Tok} (y_HEAVIEST : PySem.W.nsIn K mainGlobals "HEAVIEST" = some (some (.int (1000000000000000000000000000000) tk_HEAVIEST)))
        {tk_MOST_TIES_orders : Tok} (y_MOST_TIES_orders : PySem.W.nsIn K mainGlobals "MOST_TIES_orders" = some (some (.int (40) tk_MOST_TIES_orders))) :
    ∃ fd : FuncData, (∀ (s : Shared) (v : Value), BindsTo s fd ⟨[v], []⟩ [("script", v)]) ∧ ∀ base : Heap, K.In base → base.Ns mainGlobals mg → FnOk l.prog w K mg base CX0 7 fa fd ["script"] (spG K mg 1 f_law) := by
  have e := hfa.symm.trans (PySem.W.mg_of X G a23)
  cases e
  exact ⟨_, fun s v => .of_eq rfl, fun base _ _ => ok_law (mkTx X G a0 l0 c0 k0 a1 l1 c1 k1 a2 l2 c2 k2 a3 l3 c3 k3 a4 l4 c4 k4 a5 l5 c5 k5 a6 l6 c6 k6 a7 l7 c7 k7 a8 l8 c8 k8 a9 l9 c9 k9 a10 l10 c10 k10 e10 a11 l11 c11 k11 a12 l12 c12 k12 a13 l13 c13 k13 a14 l14 c14 k14 a15 l15 c15 k15 a16 l16 c16 k16 a17 l17 c17 k17 a18 l18 c18 k18 a19 l19 c19 k19 a20 l20 c20 k20 a21 l21 c21 k21 a22 l22 c22 k22 a23 l23 c23 k23 z_isinstance z_int z_bool z_tuple z_len z_list z_all z_min z_max z_sorted z_range z_enumerate z_sum y_MOST_PLACES y_LAST_MOMENT y_MOST_TIES_records y_HEAVIEST y_MOST_TIES_orders)⟩
end
end K49
end T_K49

section T_K49A
set_option linter.all false
set_option maxRecDepth 100000
set_option maxHeartbeats 4000000
/-! K49A: what is drawn: pools, heavy webs; weights. -/
namespace K49
open PySem Sim FamA Heav

def poolD (r : Int) : Dt := .list [.int r]
def PoolOk (p : Dt) : Prop := ∃ r : Int, p = poolD r ∧ 0 ≤ r
theorem PoolOk.arg {p : Dt} (h : PoolOk p) : argK .la p = true := by
  obtain ⟨r, rfl, _⟩ := h
  rfl
theorem PoolOk.argD {p : Dt} (h : PoolOk p) : argD p = true := by
  obtain ⟨r, rfl, _⟩ := h
  rfl
theorem ixq0 (r : Int) : hIx (poolD r) (.int 0) = .ok (.int r) := rfl
theorem take_ok {size : Int} {p : Dt} (hp : PoolOk p) (hs : 0 < size) (hs2 : size < 1000000000000000000000000000000000) :
    ∃ d p', f_l_take [p, .int size] = .ok (.tuple [.int d, p']) ∧ 0 ≤ d ∧ d < size ∧ PoolOk p' := by
  obtain ⟨r, rfl, r0⟩ := hp
  have hdv := hDiv_s (i := r) hs hs2
  have hmd := hMod_i (i := r) hs
  refine ⟨r % size, poolD (r / size), fnN_rt ?_, Int.emod_nonneg _ (by omega), Int.emod_lt_of_pos _ hs, _, rfl, Int.ediv_nonneg r0 (by omega)⟩
  show g_l_take [poolD r, .int size, .none] = _
  unfold g_l_take
  refine seq_step (set_ok (d := .int (r % size)) (by simp only [bnd_ok, gVar_def, gC_def, gOp_def, gUn_def, gNil_def, gCons_def, gIf_def, gTest_def, gNot_def, gAnd_def, gOr_def, gAndV_def, gOrV_def, gNotV_def, gCB_def, asB_b, hAdd_i, hSub_i, hLt_i, hLe_i, hGt_i, hGe_i, hMul_r, hMul_l, hMod_i, hDiv_s, hBand_i, hShr_i, hPow_10_18, hPow_10_27, hPow_10_28, hPow_10_29, hPow_10_30, hEq_i, hNe_i, hLen_l, hLen_t, hMin2_i, hMax2_i, hMin3_i, hInt1_b, hInt1_i, hBits_i, hListOf_l, hListOf_t, hTupOf_l, hTupOf_t, gSeqS_def, gSet_def, gRet_def, gIfS_def, gNext_def, gTup_def, gLst_def, List.getElem?_cons_zero, List.getElem?_cons_succ, List.set_cons_zero, List.set_cons_succ, List.length_cons, List.length_nil, Nat.zero_add, Nat.reduceAdd, Nat.reduceLeDiff, Nat.reduceSub, Nat.reduceMul, if_true, if_false, Bool.false_eq_true, List.replicate_succ, List.replicate_zero, List.cons_append, List.nil_append, tgN, tgT, tgCons, tgNil, Int.reducePow, Int.reduceAdd, Int.reduceSub, Int.reduceMul, decide_true, decide_false, Bool.not_true, Bool.not_false, gChain_def, hIsa_int, hIsa_intb, hIsa_list, hIsa_tuple, gDrop_def, ixq0, hmd])) ?_
  dsimp only [List.set]
  refine seq_step (setI_ok (ds := [.int r]) (d := .int (r / size)) (j := 0) (by simp only [bnd_ok, gVar_def, gC_def, gOp_def, gUn_def, gNil_def, gCons_def, gIf_def, gTest_def, gNot_def, gAnd_def, gOr_def, gAndV_def, gOrV_def, gNotV_def, gCB_def, asB_b, hAdd_i, hSub_i, hLt_i, hLe_i, hGt_i, hGe_i, hMul_r, hMul_l, hMod_i, hDiv_s, hBand_i, hShr_i, hPow_10_18, hPow_10_27, hPow_10_28, hPow_10_29, hPow_10_30, hEq_i, hNe_i, hLen_l, hLen_t, hMin2_i, hMax2_i, hMin3_i, hInt1_b, hInt1_i, hBits_i, hListOf_l, hListOf_t, hTupOf_l, hTupOf_t, gSeqS_def, gSet_def, gRet_def, gIfS_def, gNext_def, gTup_def, gLst_def, List.getElem?_cons_zero, List.getElem?_cons_succ, List.set_cons_zero, List.set_cons_succ, List.length_cons, List.length_nil, Nat.zero_add, Nat.reduceAdd, Nat.reduceLeDiff, Nat.reduceSub, Nat.reduceMul, if_true, if_false, Bool.false_eq_true, List.replicate_succ, List.replicate_zero, List.cons_append, List.nil_append, tgN, tgT, tgCons, tgNil, Int.reducePow, Int.reduceAdd, Int.reduceSub, Int.reduceMul, decide_true, decide_false, Bool.not_true, Bool.not_false, gChain_def, hIsa_int, hIsa_intb, hIsa_list, hIsa_tuple, gDrop_def, ixq0, hdv]) rfl rfl (by omega) (by simp)) ?_
  exact xret_ok (ρ' := [poolD (r / size), .int size, .int (r % size)]) (d := .int (r % size)) (e := poolD (r / size)) (by rfl) rfl rfl
/-- a draw within an expression -/
theorem tk_ok {size : Int} {p : Dt} {i : Nat} {gA : List Dt → O (List Dt × List Dt)} {ρ ρ' : List Dt} (h1 : gA ρ = .ok ([.int size], ρ')) (h3 : ρ'[i]? = some p) (hp : PoolOk p) (hs : 0 < size) (hs2 : size < 1000000000000000000000000000000000) :
    ∃ d p', xCallM .la 2 f_l_take i gA ρ = .ok (.int d, ρ'.set i p') ∧ 0 ≤ d ∧ d < size ∧ PoolOk p' := by
  obtain ⟨d, p', h, d0, d1, hp'⟩ := take_ok hp hs hs2
  exact ⟨d, p', xcallM_ok h1 rfl h3 hp.arg h hp'.arg, d0, d1, hp'⟩
theorem ix_list {xs : List Int} {i lo hi : Int} (h0 : 0 ≤ i) (h1 : i < xs.length) (hx : ∀ x ∈ xs, lo ≤ x ∧ x ≤ hi) : ∃ x, hIx (.list (xs.map .int)) (.int i) = .ok (.int x) ∧ lo ≤ x ∧ x ≤ hi :=
  ⟨_, hIx_ints h0 h1, hx _ (List.getElem_mem _)⟩
/-! the pool -/
theorem lg_le {x : Int} {m : Nat} (h0 : 0 ≤ x) (h : x < ((2 ^ m : Nat) : Int)) : x.natAbs.log2 ≤ m := by
  have h1 : x.natAbs < 2 ^ m := by omega
  by_cases c : x.natAbs = 0
  · rw [c]
    exact Nat.zero_le _
  · exact Nat.le_of_lt ((Nat.log2_lt c).mpr h1)
theorem mulW {i j : Int} {m : Nat} (i0 : 0 ≤ i) (i1 : i < ((2 ^ m : Nat) : Int)) (hm : m ≤ 100000) (j0 : 0 ≤ j) (j1 : j < 18446744073709551616) : hMulW (.int i) (.int j) = .ok (.int (i * j)) := by
  have h1 := lg_le i0 i1
  have h2 := lg_le (m := 64) j0 (by exact j1)
  exact hMulW_i (by omega)
theorem mulS {i j : Int} (i0 : 0 ≤ i) (i1 : i < 18446744073709551616) (j0 : 0 ≤ j) (j1 : j < 18446744073709551616) : hMulW (.int i) (.int j) = .ok (.int (i * j)) := mulW (m := 64) i0 (by exact i1) (by omega) j0 j1
theorem poolStep {sc x5 : Dt} {k cell big : Int} {i : Nat} (hi : i < 48) (k0 : 0 ≤ k) (k1 : k < 1000) (f0 : 0 ≤ big) (f1 : big < ((2 ^ (20 * i) : Nat) : Int)) :
    ∃ big' y5, g_l_pool_L1 [sc, .int k, .int cell, .int big, .int (0 + (i : Int)), x5] = .ok (.nx [sc, .int k, .int cell, .int big', .int (0 + (i : Int)), y5]) ∧ 0 ≤ big' ∧ big' < ((2 ^ (20 * (i + 1)) : Nat) : Int) := by
  have m0 := hMod_i (i := cell) (show (0 : Int) < 998244353 by omega)
  have c0 := Int.emod_nonneg cell (show (998244353 : Int) ≠ 0 by omega)
  have c1 := Int.emod_lt_of_pos cell (show (0 : Int) < 998244353 by omega)
  generalize cell % 998244353 = ce at *
  have e1 := mulS (i := 89) (j := 0 + (i : Int)) (by omega) (by omega) (by omega) (by omega)
  have hq0 : (0 : Int) ≤ 89 * (0 + (i : Int)) * (0 + (i : Int)) ∧ 89 * (0 + (i : Int)) * (0 + (i : Int)) ≤ 1000000 := by
    have : (0 + (i : Int)) = (i : Int) := by omega
    rw [this]
    have h1 : (89 : Int) * (i : Int) ≤ 89 * 47 := by omega
    have h2 : (89 : Int) * (i : Int) * (i : Int) ≤ 89 * 47 * 47 := Int.mul_le_mul h1 (by omega) (by omega) (by omega)
    have h3 : (0 : Int) ≤ 89 * (i : Int) * (i : Int) := Int.mul_nonneg (by omega) (by omega)
    omega
  have e2 := mulS (i := 89 * (0 + (i : Int))) (j := 0 + (i : Int)) (by omega) (by omega) (by omega) (by omega)
  have e3 := mulS (i := 7) (j := k) (by omega) (by omega) k0 (by omega)
  generalize 89 * (0 + (i : Int)) * (0 + (i : Int)) = sq at *
  have e4 := mulS (i := ce + sq + 7 * k + 1) (j := 48271) (by omega) (by omega) (by omega) (by omega)
  have m1 := hMod_i (i := (ce + sq + 7 * k + 1) * 48271) (show (0 : Int) < 2147483647 by omega)
  have r1 := Int.emod_nonneg ((ce + sq + 7 * k + 1) * 48271) (show (2147483647 : Int) ≠ 0 by omega)
  have r2 := Int.emod_lt_of_pos ((ce + sq + 7 * k + 1) * 48271) (show (0 : Int) < 2147483647 by omega)
  have s1 : gOp hMod (gOp hMulW (gOp hAdd (gOp hAdd (gOp hAdd (gOp hMod (gVar 2) (gC (.int (998244353)))) (gOp hMulW (gOp hMulW (gC (.int (89))) (gVar 4)) (gVar 4))) (gOp hMulW (gC (.int (7))) (gVar 1))) (gC (.int (1)))) (gC (.int (48271)))) (gC (.int (2147483647))) [sc, .int k, .int cell, .int big, .int (0 + (i : Int)), x5] = .ok (.int ((ce + sq + 7 * k + 1) * 48271 % 2147483647)) := by
    simp only [bnd_ok, gVar_def, gC_def, gOp_def, gUn_def, gNil_def, gCons_def, gIf_def, gTest_def, gNot_def, gAnd_def, gOr_def, gAndV_def, gOrV_def, gNotV_def, gCB_def, asB_b, hAdd_i, hSub_i, hLt_i, hLe_i, hGt_i, hGe_i, hMul_r, hMul_l, hMod_i, hDiv_s, hBand_i, hShr_i, hPow_10_18, hPow_10_27, hPow_10_28, hPow_10_29, hPow_10_30, hEq_i, hNe_i, hLen_l, hLen_t, hMin2_i, hMax2_i, hMin3_i, hInt1_b, hInt1_i, hBits_i, hListOf_l, hListOf_t, hTupOf_l, hTupOf_t, gSeqS_def, gSet_def, gRet_def, gIfS_def, gNext_def, gTup_def, gLst_def, List.getElem?_cons_zero, List.getElem?_cons_succ, List.set_cons_zero, List.set_cons_succ, List.length_cons, List.length_nil, Nat.zero_add, Nat.reduceAdd, Nat.reduceLeDiff, Nat.reduceSub, Nat.reduceMul, if_true, if_false, Bool.false_eq_true, List.replicate_succ, List.replicate_zero, List.cons_append, List.nil_append, tgN, tgT, tgCons, tgNil, Int.reducePow, Int.reduceAdd, Int.reduceSub, Int.reduceMul, decide_true, decide_false, Bool.not_true, Bool.not_false, gChain_def, hIsa_int, hIsa_intb, hIsa_list, hIsa_tuple, gDrop_def, m0, e1, e2, e3, e4, m1]
  generalize (ce + sq + 7 * k + 1) * 48271 % 2147483647 = a at *
  have e5 := mulS (i := a) (j := a) r1 (by omega) r1 (by omega)
  have m2 := hMod_i (i := a * a) (show (0 : Int) < 1000000007 by omega)
  have q1 := Int.emod_nonneg (a * a) (show (1000000007 : Int) ≠ 0 by omega)
  have q2 := Int.emod_lt_of_pos (a * a) (show (0 : Int) < 1000000007 by omega)
  generalize a * a % 1000000007 = b at *
  have e6 := mulS (i := 7919) (j := 0 + (i : Int)) (by omega) (by omega) (by omega) (by omega)
  have e7 := mulS (i := b + 7919 * (0 + (i : Int))) (j := 69621) (by omega) (by omega) (by omega) (by omega)
  have m3 := hMod_i (i := (b + 7919 * (0 + (i : Int))) * 69621) (show (0 : Int) < 2147483587 by omega)
  have t1 := Int.emod_nonneg ((b + 7919 * (0 + (i : Int))) * 69621) (show (2147483587 : Int) ≠ 0 by omega)
  generalize (b + 7919 * (0 + (i : Int))) * 69621 % 2147483587 = c at *
  have e8 := mulW (i := big) (j := 1000003) f0 f1 (by omega) (by omega) (by omega)
  have d8 := hDiv_s (i := c) (show (0 : Int) < 8 by omega) (by omega)
  have m4 := hMod_i (i := c / 8) (show (0 : Int) < 1000003 by omega)
  have p1 := Int.emod_nonneg (c / 8) (show (1000003 : Int) ≠ 0 by omega)
  have p2 := Int.emod_lt_of_pos (c / 8) (show (0 : Int) < 1000003 by omega)
  refine ⟨big * 1000003 + c / 8 % 1000003, .int c, ?_, by omega, ?_⟩
  · unfold g_l_pool_L1
    refine seq_step (set_ok s1) ?_
    dsimp only [List.set]
    refine seq_step (set_ok (d := .int b) (by simp only [bnd_ok, gVar_def, gC_def, gOp_def, gUn_def, gNil_def, gCons_def, gIf_def, gTest_def, gNot_def, gAnd_def, gOr_def, gAndV_def, gOrV_def, gNotV_def, gCB_def, asB_b, hAdd_i, hSub_i, hLt_i, hLe_i, hGt_i, hGe_i, hMul_r, hMul_l, hMod_i, hDiv_s, hBand_i, hShr_i, hPow_10_18, hPow_10_27, hPow_10_28, hPow_10_29, hPow_10_30, hEq_i, hNe_i, hLen_l, hLen_t, hMin2_i, hMax2_i, hMin3_i, hInt1_b, hInt1_i, hBits_i, hListOf_l, hListOf_t, hTupOf_l, hTupOf_t, gSeqS_def, gSet_def, gRet_def, gIfS_def, gNext_def, gTup_def, gLst_def, List.getElem?_cons_zero, List.getElem?_cons_succ, List.set_cons_zero, List.set_cons_succ, List.length_cons, List.length_nil, Nat.zero_add, Nat.reduceAdd, Nat.reduceLeDiff, Nat.reduceSub, Nat.reduceMul, if_true, if_false, Bool.false_eq_true, List.replicate_succ, List.replicate_zero, List.cons_append, List.nil_append, tgN, tgT, tgCons, tgNil, Int.reducePow, Int.reduceAdd, Int.reduceSub, Int.reduceMul, decide_true, decide_false, Bool.not_true, Bool.not_false, gChain_def, hIsa_int, hIsa_intb, hIsa_list, hIsa_tuple, gDrop_def, e5, m2])) ?_
    dsimp only [List.set]
    refine seq_step (set_ok (d := .int c) (by simp only [bnd_ok, gVar_def, gC_def, gOp_def, gUn_def, gNil_def, gCons_def, gIf_def, gTest_def, gNot_def, gAnd_def, gOr_def, gAndV_def, gOrV_def, gNotV_def, gCB_def, asB_b, hAdd_i, hSub_i, hLt_i, hLe_i, hGt_i, hGe_i, hMul_r, hMul_l, hMod_i, hDiv_s, hBand_i, hShr_i, hPow_10_18, hPow_10_27, hPow_10_28, hPow_10_29, hPow_10_30, hEq_i, hNe_i, hLen_l, hLen_t, hMin2_i, hMax2_i, hMin3_i, hInt1_b, hInt1_i, hBits_i, hListOf_l, hListOf_t, hTupOf_l, hTupOf_t, gSeqS_def, gSet_def, gRet_def, gIfS_def, gNext_def, gTup_def, gLst_def, List.getElem?_cons_zero, List.getElem?_cons_succ, List.set_cons_zero, List.set_cons_succ, List.length_cons, List.length_nil, Nat.zero_add, Nat.reduceAdd, Nat.reduceLeDiff, Nat.reduceSub, Nat.reduceMul, if_true, if_false, Bool.false_eq_true, List.replicate_succ, List.replicate_zero, List.cons_append, List.nil_append, tgN, tgT, tgCons, tgNil, Int.reducePow, Int.reduceAdd, Int.reduceSub, Int.reduceMul, decide_true, decide_false, Bool.not_true, Bool.not_false, gChain_def, hIsa_int, hIsa_intb, hIsa_list, hIsa_tuple, gDrop_def, e6, e7, m3])) ?_
    dsimp only [List.set]
    exact set_ok (d := .int (big * 1000003 + c / 8 % 1000003)) (by simp only [bnd_ok, gVar_def, gC_def, gOp_def, gUn_def, gNil_def, gCons_def, gIf_def, gTest_def, gNot_def, gAnd_def, gOr_def, gAndV_def, gOrV_def, gNotV_def, gCB_def, asB_b, hAdd_i, hSub_i, hLt_i, hLe_i, hGt_i, hGe_i, hMul_r, hMul_l, hMod_i, hDiv_s, hBand_i, hShr_i, hPow_10_18, hPow_10_27, hPow_10_28, hPow_10_29, hPow_10_30, hEq_i, hNe_i, hLen_l, hLen_t, hMin2_i, hMax2_i, hMin3_i, hInt1_b, hInt1_i, hBits_i, hListOf_l, hListOf_t, hTupOf_l, hTupOf_t, gSeqS_def, gSet_def, gRet_def, gIfS_def, gNext_def, gTup_def, gLst_def, List.getElem?_cons_zero, List.getElem?_cons_succ, List.set_cons_zero, List.set_cons_succ, List.length_cons, List.length_nil, Nat.zero_add, Nat.reduceAdd, Nat.reduceLeDiff, Nat.reduceSub, Nat.reduceMul, if_true, if_false, Bool.false_eq_true, List.replicate_succ, List.replicate_zero, List.cons_append, List.nil_append, tgN, tgT, tgCons, tgNil, Int.reducePow, Int.reduceAdd, Int.reduceSub, Int.reduceMul, decide_true, decide_false, Bool.not_true, Bool.not_false, gChain_def, hIsa_int, hIsa_intb, hIsa_list, hIsa_tuple, gDrop_def, e8, d8, m4])
  · have e : (2 ^ (20 * (i + 1)) : Nat) = 2 ^ (20 * i) * 1048576 := by rw [Nat.mul_add, Nat.pow_add]
    rw [e]
    generalize (2 ^ (20 * i) : Nat) = P at *
    generalize c / 8 % 1000003 = d at *
    omega
theorem cell_ok (ns : List Int) {k : Int} (k0 : 0 ≤ k) : ∃ c : Int, f_l_cell_at [.list (ns.map .int), .int k] = .ok (.int c) := by
  by_cases h : k < (ns.length : Int)
  · refine ⟨ns[k.toNat]'(by omega), fnN_rt ?_⟩
    show g_l_cell_at [.list (ns.map .int), .int k] = _
    unfold g_l_cell_at
    refine seq_rt ((if_t (by simp only [bnd_ok, gVar_def, gC_def, gOp_def, gUn_def, gNil_def, gCons_def, gIf_def, gTest_def, gNot_def, gAnd_def, gOr_def, gAndV_def, gOrV_def, gNotV_def, gCB_def, asB_b, hAdd_i, hSub_i, hLt_i, hLe_i, hGt_i, hGe_i, hMul_r, hMul_l, hMod_i, hDiv_s, hBand_i, hShr_i, hPow_10_18, hPow_10_27, hPow_10_28, hPow_10_29, hPow_10_30, hEq_i, hNe_i, hLen_l, hLen_t, hMin2_i, hMax2_i, hMin3_i, hInt1_b, hInt1_i, hBits_i, hListOf_l, hListOf_t, hTupOf_l, hTupOf_t, gSeqS_def, gSet_def, gRet_def, gIfS_def, gNext_def, gTup_def, gLst_def, List.getElem?_cons_zero, List.getElem?_cons_succ, List.set_cons_zero, List.set_cons_succ, List.length_cons, List.length_nil, Nat.zero_add, Nat.reduceAdd, Nat.reduceLeDiff, Nat.reduceSub, Nat.reduceMul, if_true, if_false, Bool.false_eq_true, List.replicate_succ, List.replicate_zero, List.cons_append, List.nil_append, tgN, tgT, tgCons, tgNil, Int.reducePow, Int.reduceAdd, Int.reduceSub, Int.reduceMul, decide_true, decide_false, Bool.not_true, Bool.not_false, gChain_def, hIsa_int, hIsa_intb, hIsa_list, hIsa_tuple, gDrop_def, List.length_map, h])).trans (ret_ok ?_))
    have e : gOp hIx (gVar 0) (gVar 1) [.list (ns.map .int), .int k] = .ok (.int (ns[k.toNat]'(by omega))) := by
      rw [gOp_def]
      exact hIx_ints k0 h
    unfold gPur
    rw [e]
    rfl
  · refine ⟨0, fnN_rt ?_⟩
    show g_l_cell_at [.list (ns.map .int), .int k] = _
    unfold g_l_cell_at
    exact seq_step ((if_f (by simp only [bnd_ok, gVar_def, gC_def, gOp_def, gUn_def, gNil_def, gCons_def, gIf_def, gTest_def, gNot_def, gAnd_def, gOr_def, gAndV_def, gOrV_def, gNotV_def, gCB_def, asB_b, hAdd_i, hSub_i, hLt_i, hLe_i, hGt_i, hGe_i, hMul_r, hMul_l, hMod_i, hDiv_s, hBand_i, hShr_i, hPow_10_18, hPow_10_27, hPow_10_28, hPow_10_29, hPow_10_30, hEq_i, hNe_i, hLen_l, hLen_t, hMin2_i, hMax2_i, hMin3_i, hInt1_b, hInt1_i, hBits_i, hListOf_l, hListOf_t, hTupOf_l, hTupOf_t, gSeqS_def, gSet_def, gRet_def, gIfS_def, gNext_def, gTup_def, gLst_def, List.getElem?_cons_zero, List.getElem?_cons_succ, List.set_cons_zero, List.set_cons_succ, List.length_cons, List.length_nil, Nat.zero_add, Nat.reduceAdd, Nat.reduceLeDiff, Nat.reduceSub, Nat.reduceMul, if_true, if_false, Bool.false_eq_true, List.replicate_succ, List.replicate_zero, List.cons_append, List.nil_append, tgN, tgT, tgCons, tgNil, Int.reducePow, Int.reduceAdd, Int.reduceSub, Int.reduceMul, decide_true, decide_false, Bool.not_true, Bool.not_false, gChain_def, hIsa_int, hIsa_intb, hIsa_list, hIsa_tuple, gDrop_def, List.length_map, h])).trans rfl) rfl
theorem pool_ok (ns : List Int) {k : Int} (k0 : 0 ≤ k) (k1 : k < 1000) : ∃ p, f_l_pool [.list (ns.map .int), .int k] = .ok p ∧ PoolOk p := by
  obtain ⟨cell, hc⟩ := cell_ok ns k0
  have c1 : gCallN 2 f_l_cell_at (gCons (gVar 0) (gCons (gVar 1) (gNil))) [.list (ns.map .int), .int k, .none, .none, .none, .none] = .ok (.int cell) := callN_ok (ds := [.list (ns.map .int), .int k]) rfl rfl hc
  by_cases h : 1000000000000000000 ≤ cell
  · refine ⟨poolD cell, fnL_rt ?_, _, rfl, by omega⟩
    show g_l_pool [.list (ns.map .int), .int k, .none, .none, .none, .none] = _
    unfold g_l_pool
    refine seq_step (set_ok c1) ?_
    dsimp only [List.set]
    exact seq_rt ((if_t (by simp only [bnd_ok, gVar_def, gC_def, gOp_def, gUn_def, gNil_def, gCons_def, gIf_def, gTest_def, gNot_def, gAnd_def, gOr_def, gAndV_def, gOrV_def, gNotV_def, gCB_def, asB_b, hAdd_i, hSub_i, hLt_i, hLe_i, hGt_i, hGe_i, hMul_r, hMul_l, hMod_i, hDiv_s, hBand_i, hShr_i, hPow_10_18, hPow_10_27, hPow_10_28, hPow_10_29, hPow_10_30, hEq_i, hNe_i, hLen_l, hLen_t, hMin2_i, hMax2_i, hMin3_i, hInt1_b, hInt1_i, hBits_i, hListOf_l, hListOf_t, hTupOf_l, hTupOf_t, gSeqS_def, gSet_def, gRet_def, gIfS_def, gNext_def, gTup_def, gLst_def, List.getElem?_cons_zero, List.getElem?_cons_succ, List.set_cons_zero, List.set_cons_succ, List.length_cons, List.length_nil, Nat.zero_add, Nat.reduceAdd, Nat.reduceLeDiff, Nat.reduceSub, Nat.reduceMul, if_true, if_false, Bool.false_eq_true, List.replicate_succ, List.replicate_zero, List.cons_append, List.nil_append, tgN, tgT, tgCons, tgNil, Int.reducePow, Int.reduceAdd, Int.reduceSub, Int.reduceMul, decide_true, decide_false, Bool.not_true, Bool.not_false, gChain_def, hIsa_int, hIsa_intb, hIsa_list, hIsa_tuple, gDrop_def, h])).trans (ret_ok (by rfl)))
  · obtain ⟨ρ', hf, fo, x4, x5, rfl, f0, f1⟩ := forE_ix (fun (j : Nat) => PyData.int (0 + (j : Int))) (h := tgN 4) (b := g_l_pool_L1) (List.range 48)
      (fun i ρ => ∃ (fo : Int) (x4 x5 : Dt), ρ = [.list (ns.map .int), .int k, .int cell, .int fo, x4, x5] ∧ 0 ≤ fo ∧ fo < ((2 ^ (20 * i) : Nat) : Int))
      (ρ := [.list (ns.map .int), .int k, .int cell, .int 0, .none, .none]) ⟨0, .none, .none, rfl, by omega, by simp⟩ (by
        rintro i ρ hi ⟨fo, x4, x5, rfl, f0, f1⟩
        rw [List.length_range] at hi
        obtain ⟨fo2, y5, hb, q2, q3⟩ := poolStep (sc := .list (ns.map .int)) (x5 := x5) (cell := cell) hi k0 k1 f0 f1
        rw [List.getElem_range]
        exact ⟨_, _, rfl, .inl hb, fo2, _, y5, rfl, q2, q3⟩)
    refine ⟨poolD fo, fnL_rt ?_, _, rfl, f0⟩
    show g_l_pool [.list (ns.map .int), .int k, .none, .none, .none, .none] = _
    unfold g_l_pool
    refine seq_step (set_ok c1) ?_
    dsimp only [List.set]
    refine seq_step ((if_f (by simp only [bnd_ok, gVar_def, gC_def, gOp_def, gUn_def, gNil_def, gCons_def, gIf_def, gTest_def, gNot_def, gAnd_def, gOr_def, gAndV_def, gOrV_def, gNotV_def, gCB_def, asB_b, hAdd_i, hSub_i, hLt_i, hLe_i, hGt_i, hGe_i, hMul_r, hMul_l, hMod_i, hDiv_s, hBand_i, hShr_i, hPow_10_18, hPow_10_27, hPow_10_28, hPow_10_29, hPow_10_30, hEq_i, hNe_i, hLen_l, hLen_t, hMin2_i, hMax2_i, hMin3_i, hInt1_b, hInt1_i, hBits_i, hListOf_l, hListOf_t, hTupOf_l, hTupOf_t, gSeqS_def, gSet_def, gRet_def, gIfS_def, gNext_def, gTup_def, gLst_def, List.getElem?_cons_zero, List.getElem?_cons_succ, List.set_cons_zero, List.set_cons_succ, List.length_cons, List.length_nil, Nat.zero_add, Nat.reduceAdd, Nat.reduceLeDiff, Nat.reduceSub, Nat.reduceMul, if_true, if_false, Bool.false_eq_true, List.replicate_succ, List.replicate_zero, List.cons_append, List.nil_append, tgN, tgT, tgCons, tgNil, Int.reducePow, Int.reduceAdd, Int.reduceSub, Int.reduceMul, decide_true, decide_false, Bool.not_true, Bool.not_false, gChain_def, hIsa_int, hIsa_intb, hIsa_list, hIsa_tuple, gDrop_def, h])).trans rfl) ?_
    refine seq_step (set_ok (d := .int 0) rfl) ?_
    dsimp only [List.set]
    refine seq_step (for_ok (ds := (List.range 48).map fun (j : Nat) => PyData.int (0 + (j : Int))) ?_ hf) ?_
    · rw [rng1_ok (j := 48) (by rfl) (by omega) (by omega)]
      rfl
    · exact ret_ok (by rfl)
/-! heavy webs -/
structure HOk (n : Int) (hv : List T3) : Prop where
  ok : ∀ t ∈ hv, 0 ≤ t.1 ∧ t.1 < t.2.1 ∧ t.2.1 < n ∧ 1 ≤ t.2.2 ∧ t.2.2 ≤ 1000000000000000000000000000000
theorem HOk.web {n : Int} {hv : List T3} (h : HOk n hv) : Web n hv := ⟨fun t ht => by
  obtain ⟨h1, h2, h3, h4, _⟩ := h.ok t ht
  exact ⟨h1, h2, h3, by omega⟩⟩
theorem other_end {n a d : Int} (n2 : 2 ≤ n) (n10 : n ≤ 10) (a0 : 0 ≤ a) (a1 : a < n) (d0 : 0 ≤ d) (d1 : d < n - 1) : 0 ≤ (a + 1 + d) % n ∧ (a + 1 + d) % n < n ∧ (a + 1 + d) % n ≠ a := by
  have h : n = 2 ∨ n = 3 ∨ n = 4 ∨ n = 5 ∨ n = 6 ∨ n = 7 ∨ n = 8 ∨ n = 9 ∨ n = 10 := by omega
  rcases h with rfl | rfl | rfl | rfl | rfl | rfl | rfl | rfl | rfl <;> omega
theorem hPow27 : hPow (.int 10) (.int 27) = .ok (.int 1000000000000000000000000000) := hPow_10_27
theorem heavy_ok {n most : Int} {p : Dt} (hp : PoolOk p) (n1 : 1 ≤ n) (n10 : n ≤ 10) (h0 : 0 ≤ most) (h1 : most ≤ 40) :
    ∃ hv p', f_l_heavy [p, .int n, .int most] = .ok (.tuple [.list (hv.map enc3), p']) ∧ HOk n hv ∧ (hv.length : Int) ≤ most ∧ PoolOk p' := by
  obtain ⟨sort, p1, e1, s0, s1, hp1⟩ := tk_ok (i := 0) (gA := xCons (xP (gC (.int (4)))) (xNil)) (ρ := [p, .int n, .int most, .none, .none, .none, .none, .none, .none]) rfl rfl hp (by omega : (0 : Int) < 4) (by omega)
  by_cases n2 : n < 2
  · refine ⟨[], p1, fnL_rt ?_, ⟨fun t ht => nomatch ht⟩, h0, hp1⟩
    show g_l_heavy [p, .int n, .int most, .none, .none, .none, .none, .none, .none] = _
    unfold g_l_heavy
    refine seq_step (xset_ok e1) ?_
    dsimp only [List.set]
    refine seq_step (set_ok (d := .list []) (by rfl)) ?_
    dsimp only [List.set]
    exact seq_rt ((if_t (by simp only [bnd_ok, gVar_def, gC_def, gOp_def, gUn_def, gNil_def, gCons_def, gIf_def, gTest_def, gNot_def, gAnd_def, gOr_def, gAndV_def, gOrV_def, gNotV_def, gCB_def, asB_b, hAdd_i, hSub_i, hLt_i, hLe_i, hGt_i, hGe_i, hMul_r, hMul_l, hMod_i, hDiv_s, hBand_i, hShr_i, hPow_10_18, hPow_10_27, hPow_10_28, hPow_10_29, hPow_10_30, hEq_i, hNe_i, hLen_l, hLen_t, hMin2_i, hMax2_i, hMin3_i, hInt1_b, hInt1_i, hBits_i, hListOf_l, hListOf_t, hTupOf_l, hTupOf_t, gSeqS_def, gSet_def, gRet_def, gIfS_def, gNext_def, gTup_def, gLst_def, List.getElem?_cons_zero, List.getElem?_cons_succ, List.set_cons_zero, List.set_cons_succ, List.length_cons, List.length_nil, Nat.zero_add, Nat.reduceAdd, Nat.reduceLeDiff, Nat.reduceSub, Nat.reduceMul, if_true, if_false, Bool.false_eq_true, List.replicate_succ, List.replicate_zero, List.cons_append, List.nil_append, tgN, tgT, tgCons, tgNil, Int.reducePow, Int.reduceAdd, Int.reduceSub, Int.reduceMul, decide_true, decide_false, Bool.not_true, Bool.not_false, gChain_def, hIsa_int, hIsa_intb, hIsa_list, hIsa_tuple, gDrop_def, n2])).trans (xretO_ok rfl rfl hp1.argD))
  have n2' : 2 ≤ n := by omega
  obtain ⟨many, p2, e2, m0, m1, hp2⟩ := tk_ok (i := 0) (gA := xCons (xP (gOp hAdd (gVar 2) (gC (.int (1))))) (xNil)) (ρ := [p1, .int n, .int most, .int sort, .list [], .none, .none, .none, .none]) (ρ' := [p1, .int n, .int most, .int sort, .list [], .none, .none, .none, .none]) (size := most + 1) (by
    rw [xCons_def, xP_def]
    simp only [bnd_ok, gVar_def, gC_def, gOp_def, gUn_def, gNil_def, gCons_def, gIf_def, gTest_def, gNot_def, gAnd_def, gOr_def, gAndV_def, gOrV_def, gNotV_def, gCB_def, asB_b, hAdd_i, hSub_i, hLt_i, hLe_i, hGt_i, hGe_i, hMul_r, hMul_l, hMod_i, hDiv_s, hBand_i, hShr_i, hPow_10_18, hPow_10_27, hPow_10_28, hPow_10_29, hPow_10_30, hEq_i, hNe_i, hLen_l, hLen_t, hMin2_i, hMax2_i, hMin3_i, hInt1_b, hInt1_i, hBits_i, hListOf_l, hListOf_t, hTupOf_l, hTupOf_t, gSeqS_def, gSet_def, gRet_def, gIfS_def, gNext_def, gTup_def, gLst_def, List.getElem?_cons_zero, List.getElem?_cons_succ, List.set_cons_zero, List.set_cons_succ, List.length_cons, List.length_nil, Nat.zero_add, Nat.reduceAdd, Nat.reduceLeDiff, Nat.reduceSub, Nat.reduceMul, if_true, if_false, Bool.false_eq_true, List.replicate_succ, List.replicate_zero, List.cons_append, List.nil_append, tgN, tgT, tgCons, tgNil, Int.reducePow, Int.reduceAdd, Int.reduceSub, Int.reduceMul, decide_true, decide_false, Bool.not_true, Bool.not_false, gChain_def, hIsa_int, hIsa_intb, hIsa_list, hIsa_tuple, gDrop_def]
    rfl) rfl hp1 (by omega) (by omega)
  have e2 : xCallM .la 2 f_l_take 0 (xCons (xP (gOp hAdd (gVar 2) (gC (.int (1))))) xNil) [p1, .int n, .int most, .int sort, .list [], .none, .none, .none, .none] = .ok (.int many, [p2, .int n, .int most, .int sort, .list [], .none, .none, .none, .none]) := e2
  obtain ⟨ρ', hf, hv, p3, x5, x6, x7, x8, rfl, hp3, hl, hok⟩ := forE_ix (fun (j : Nat) => PyData.int (0 + (j : Int))) (h := tgN 5) (b := g_l_heavy_L1) (List.range many.toNat)
    (fun i ρ => ∃ (hv : List T3) (p3 x5 x6 x7 x8 : Dt), ρ = [p3, .int n, .int most, .int sort, .list (hv.map enc3), x5, x6, x7, x8] ∧ PoolOk p3 ∧ hv.length = i ∧ HOk n hv)
    (ρ := [p2, .int n, .int most, .int sort, .list (([] : List T3).map enc3), .none, .none, .none, .none]) ⟨[], p2, .none, .none, .none, .none, rfl, hp2, rfl, ⟨fun t ht => nomatch ht⟩⟩ (by
      rintro i ρ hi ⟨hv, p3, x5, x6, x7, x8, rfl, hp3, hl, hok⟩
      rw [List.length_range] at hi
      generalize hgj : (0 : Int) + ((List.range many.toNat)[i] : Nat) = jj
      obtain ⟨a, p4, e4, a0, a1, hp4⟩ := tk_ok (i := 0) (gA := xCons (xP (gVar 1)) (xNil)) (ρ := [p3, .int n, .int most, .int sort, .list (hv.map enc3), .int jj, x6, x7, x8]) rfl rfl hp3 (size := n) (by omega) (by omega)
      obtain ⟨d, p5, e5, d0, d1, hp5⟩ := tk_ok (i := 0) (gA := xCons (xP (gOp hSub (gVar 1) (gC (.int (1))))) (xNil)) (ρ := [p4, .int n, .int most, .int sort, .list (hv.map enc3), .int jj, .int a, x7, x8]) (ρ' := [p4, .int n, .int most, .int sort, .list (hv.map enc3), .int jj, .int a, x7, x8]) (size := n - 1) (by
        rw [xCons_def, xP_def]
        simp only [bnd_ok, gVar_def, gC_def, gOp_def, gUn_def, gNil_def, gCons_def, gIf_def, gTest_def, gNot_def, gAnd_def, gOr_def, gAndV_def, gOrV_def, gNotV_def, gCB_def, asB_b, hAdd_i, hSub_i, hLt_i, hLe_i, hGt_i, hGe_i, hMul_r, hMul_l, hMod_i, hDiv_s, hBand_i, hShr_i, hPow_10_18, hPow_10_27, hPow_10_28, hPow_10_29, hPow_10_30, hEq_i, hNe_i, hLen_l, hLen_t, hMin2_i, hMax2_i, hMin3_i, hInt1_b, hInt1_i, hBits_i, hListOf_l, hListOf_t, hTupOf_l, hTupOf_t, gSeqS_def, gSet_def, gRet_def, gIfS_def, gNext_def, gTup_def, gLst_def, List.getElem?_cons_zero, List.getElem?_cons_succ, List.set_cons_zero, List.set_cons_succ, List.length_cons, List.length_nil, Nat.zero_add, Nat.reduceAdd, Nat.reduceLeDiff, Nat.reduceSub, Nat.reduceMul, if_true, if_false, Bool.false_eq_true, List.replicate_succ, List.replicate_zero, List.cons_append, List.nil_append, tgN, tgT, tgCons, tgNil, Int.reducePow, Int.reduceAdd, Int.reduceSub, Int.reduceMul, decide_true, decide_false, Bool.not_true, Bool.not_false, gChain_def, hIsa_int, hIsa_intb, hIsa_list, hIsa_tuple, gDrop_def]
        rfl) rfl hp4 (by omega) (by omega)
      have e5 : xCallM .la 2 f_l_take 0 (xCons (xP (gOp hSub (gVar 1) (gC (.int (1))))) xNil) [p4, .int n, .int most, .int sort, .list (hv.map enc3), .int jj, .int a, x7, x8] = .ok (.int d, [p5, .int n, .int most, .int sort, .list (hv.map enc3), .int jj, .int a, x7, x8]) := e5
      obtain ⟨b0, b1, bne⟩ := other_end n2' n10 a0 a1 d0 d1
      have hbset : xSet 7 (xOp hMod (xOp hAdd (xP (gOp hAdd (gVar 6) (gC (.int (1))))) (xCallM .la 2 f_l_take 0 (xCons (xP (gOp hSub (gVar 1) (gC (.int (1))))) (xNil)))) (xP (gVar 1))) [p4, .int n, .int most, .int sort, .list (hv.map enc3), .int jj, .int a, x7, x8] = .ok (.nx [p5, .int n, .int most, .int sort, .list (hv.map enc3), .int jj, .int a, .int ((a + 1 + d) % n), x8]) := by
        refine xset_ok (ρ' := [p5, .int n, .int most, .int sort, .list (hv.map enc3), .int jj, .int a, x7, x8]) (d := .int ((a + 1 + d) % n)) ?_
        have q : gOp hAdd (gVar 6) (gC (.int (1))) [p4, .int n, .int most, .int sort, .list (hv.map enc3), .int jj, .int a, x7, x8] = .ok (.int (a + 1)) := rfl
        have hm := hMod_i (i := a + 1 + d) (show (0 : Int) < n by omega)
        rw [xOp_def, xOp_def, xP_def, q, bnd_ok, bnd_ok, e5, bnd_ok]
        simp only [hAdd_i, bnd_ok, xP_def, gVar_def, List.getElem?_cons_zero, List.getElem?_cons_succ, hm]
      generalize (a + 1 + d) % n = b at *
      -- another end
      obtain ⟨b', p6, hif, b0', b1', bne', hp6⟩ : ∃ b' p6, xIfS (xAnd (xPT (gTest (gOp hEq (gVar 3) (gC (.int (3)))))) (xTest (xOp hEq (xCallM .la 2 f_l_take 0 (xCons (xP (gC (.int (2)))) (xNil))) (xP (gC (.int (0))))))) (gSet 7 (gOp hMod (gOp hAdd (gVar 6) (gC (.int (1)))) (gVar 1))) (gNext) [p5, .int n, .int most, .int sort, .list (hv.map enc3), .int jj, .int a, .int b, x8]
          = .ok (.nx [p6, .int n, .int most, .int sort, .list (hv.map enc3), .int jj, .int a, .int b', x8]) ∧ 0 ≤ b' ∧ b' < n ∧ b' ≠ a ∧ PoolOk p6 := by
        by_cases c : sort = 3
        · obtain ⟨c2, p6, e6, _, _, hp6⟩ := tk_ok (i := 0) (gA := xCons (xP (gC (.int (2)))) (xNil)) (ρ := [p5, .int n, .int most, .int sort, .list (hv.map enc3), .int jj, .int a, .int b, x8]) rfl rfl hp5 (by omega : (0 : Int) < 2) (by omega)
          have e6 : xCallM .la 2 f_l_take 0 (xCons (xP (gC (.int (2)))) xNil) [p5, .int n, .int most, .int sort, .list (hv.map enc3), .int jj, .int a, .int b, x8] = .ok (.int c2, [p6, .int n, .int most, .int sort, .list (hv.map enc3), .int jj, .int a, .int b, x8]) := e6
          have ht : xAnd (xPT (gTest (gOp hEq (gVar 3) (gC (.int (3)))))) (xTest (xOp hEq (xCallM .la 2 f_l_take 0 (xCons (xP (gC (.int (2)))) (xNil))) (xP (gC (.int (0)))))) [p5, .int n, .int most, .int sort, .list (hv.map enc3), .int jj, .int a, .int b, x8] = .ok (c2 == 0, [p6, .int n, .int most, .int sort, .list (hv.map enc3), .int jj, .int a, .int b, x8]) := by
            have q : gTest (gOp hEq (gVar 3) (gC (.int (3)))) [p5, .int n, .int most, .int sort, .list (hv.map enc3), .int jj, .int a, .int b, x8] = .ok true := by
              subst c
              simp only [bnd_ok, gVar_def, gC_def, gOp_def, gUn_def, gNil_def, gCons_def, gIf_def, gTest_def, gNot_def, gAnd_def, gOr_def, gAndV_def, gOrV_def, gNotV_def, gCB_def, asB_b, hAdd_i, hSub_i, hLt_i, hLe_i, hGt_i, hGe_i, hMul_r, hMul_l, hMod_i, hDiv_s, hBand_i, hShr_i, hPow_10_18, hPow_10_27, hPow_10_28, hPow_10_29, hPow_10_30, hEq_i, hNe_i, hLen_l, hLen_t, hMin2_i, hMax2_i, hMin3_i, hInt1_b, hInt1_i, hBits_i, hListOf_l, hListOf_t, hTupOf_l, hTupOf_t, gSeqS_def, gSet_def, gRet_def, gIfS_def, gNext_def, gTup_def, gLst_def, List.getElem?_cons_zero, List.getElem?_cons_succ, List.set_cons_zero, List.set_cons_succ, List.length_cons, List.length_nil, Nat.zero_add, Nat.reduceAdd, Nat.reduceLeDiff, Nat.reduceSub, Nat.reduceMul, if_true, if_false, Bool.false_eq_true, List.replicate_succ, List.replicate_zero, List.cons_append, List.nil_append, tgN, tgT, tgCons, tgNil, Int.reducePow, Int.reduceAdd, Int.reduceSub, Int.reduceMul, decide_true, decide_false, Bool.not_true, Bool.not_false, gChain_def, hIsa_int, hIsa_intb, hIsa_list, hIsa_tuple, gDrop_def]
              rfl
            rw [xAnd_def, xPT_def, q, bnd_ok, bnd_ok, if_pos rfl, xTest_def, xOp_def, e6, bnd_ok, xP_def, gC_def, bnd_ok, bnd_ok]
            simp only [hEq_i, bnd_ok, asB_b]
          obtain ⟨g0, g1, g2⟩ := other_end (d := 0) n2' n10 a0 a1 (by omega) (by omega)
          have hm := hMod_i (i := a + 1) (show (0 : Int) < n by omega)
          rw [Int.add_zero] at g0 g1 g2
          cases e : c2 == 0 with
          | true => exact ⟨(a + 1) % n, p6, (xIf_t (e ▸ ht)).trans (set_ok (by simp only [bnd_ok, gVar_def, gC_def, gOp_def, gUn_def, gNil_def, gCons_def, gIf_def, gTest_def, gNot_def, gAnd_def, gOr_def, gAndV_def, gOrV_def, gNotV_def, gCB_def, asB_b, hAdd_i, hSub_i, hLt_i, hLe_i, hGt_i, hGe_i, hMul_r, hMul_l, hMod_i, hDiv_s, hBand_i, hShr_i, hPow_10_18, hPow_10_27, hPow_10_28, hPow_10_29, hPow_10_30, hEq_i, hNe_i, hLen_l, hLen_t, hMin2_i, hMax2_i, hMin3_i, hInt1_b, hInt1_i, hBits_i, hListOf_l, hListOf_t, hTupOf_l, hTupOf_t, gSeqS_def, gSet_def, gRet_def, gIfS_def, gNext_def, gTup_def, gLst_def, List.getElem?_cons_zero, List.getElem?_cons_succ, List.set_cons_zero, List.set_cons_succ, List.length_cons, List.length_nil, Nat.zero_add, Nat.reduceAdd, Nat.reduceLeDiff, Nat.reduceSub, Nat.reduceMul, if_true, if_false, Bool.false_eq_true, List.replicate_succ, List.replicate_zero, List.cons_append, List.nil_append, tgN, tgT, tgCons, tgNil, Int.reducePow, Int.reduceAdd, Int.reduceSub, Int.reduceMul, decide_true, decide_false, Bool.not_true, Bool.not_false, gChain_def, hIsa_int, hIsa_intb, hIsa_list, hIsa_tuple, gDrop_def, hm])), g0, g1, g2, hp6⟩
          | false => exact ⟨b, p6, (xIf_f (e ▸ ht)).trans rfl, b0, b1, bne, hp6⟩
        · have c' : (sort == 3) = false := beq_eq_false_iff_ne.mpr c
          refine ⟨b, p5, (xIf_f (ρ' := [p5, .int n, .int most, .int sort, .list (hv.map enc3), .int jj, .int a, .int b, x8]) ?_).trans rfl, b0, b1, bne, hp5⟩
          rw [xAnd_def, xPT_def]
          simp only [bnd_ok, gVar_def, gC_def, gOp_def, gUn_def, gNil_def, gCons_def, gIf_def, gTest_def, gNot_def, gAnd_def, gOr_def, gAndV_def, gOrV_def, gNotV_def, gCB_def, asB_b, hAdd_i, hSub_i, hLt_i, hLe_i, hGt_i, hGe_i, hMul_r, hMul_l, hMod_i, hDiv_s, hBand_i, hShr_i, hPow_10_18, hPow_10_27, hPow_10_28, hPow_10_29, hPow_10_30, hEq_i, hNe_i, hLen_l, hLen_t, hMin2_i, hMax2_i, hMin3_i, hInt1_b, hInt1_i, hBits_i, hListOf_l, hListOf_t, hTupOf_l, hTupOf_t, gSeqS_def, gSet_def, gRet_def, gIfS_def, gNext_def, gTup_def, gLst_def, List.getElem?_cons_zero, List.getElem?_cons_succ, List.set_cons_zero, List.set_cons_succ, List.length_cons, List.length_nil, Nat.zero_add, Nat.reduceAdd, Nat.reduceLeDiff, Nat.reduceSub, Nat.reduceMul, if_true, if_false, Bool.false_eq_true, List.replicate_succ, List.replicate_zero, List.cons_append, List.nil_append, tgN, tgT, tgCons, tgNil, Int.reducePow, Int.reduceAdd, Int.reduceSub, Int.reduceMul, decide_true, decide_false, Bool.not_true, Bool.not_false, gChain_def, hIsa_int, hIsa_intb, hIsa_list, hIsa_tuple, gDrop_def, c']
      -- the weight
      obtain ⟨sz, hsz, sz0, sz1⟩ : ∃ sz : Int, gOp hIx (gLst (gCons (gC (.int (1))) (gCons (gC (.int (3))) (gCons (gC (.int (9))) (gCons (gC (.int (1000))) (gNil)))))) (gVar 3) [p6, .int n, .int most, .int sort, .list (hv.map enc3), .int jj, .int a, .int b', x8] = .ok (.int sz) ∧ 1 ≤ sz ∧ sz ≤ 1000 := by
        obtain ⟨x, hx, x0, x1⟩ := ix_list (xs := [1, 3, 9, 1000]) (lo := 1) (hi := 1000) s0 s1 (by decide)
        refine ⟨x, ?_, x0, x1⟩
        rw [gOp_def]
        exact hx
      obtain ⟨w, p7, e7, w0, w1, hp7⟩ := tk_ok (i := 0) (gA := xCons (xP (gOp hIx (gLst (gCons (gC (.int (1))) (gCons (gC (.int (3))) (gCons (gC (.int (9))) (gCons (gC (.int (1000))) (gNil)))))) (gVar 3))) (xNil)) (ρ := [p6, .int n, .int most, .int sort, .list (hv.map enc3), .int jj, .int a, .int b', x8]) (ρ' := [p6, .int n, .int most, .int sort, .list (hv.map enc3), .int jj, .int a, .int b', x8]) (size := sz) (by
        rw [xCons_def, xP_def, hsz]
        rfl) rfl hp6 (by omega) (by omega)
      have e7 : xCallM .la 2 f_l_take 0 (xCons (xP (gOp hIx (gLst (gCons (gC (.int (1))) (gCons (gC (.int (3))) (gCons (gC (.int (9))) (gCons (gC (.int (1000))) (gNil)))))) (gVar 3))) xNil) [p6, .int n, .int most, .int sort, .list (hv.map enc3), .int jj, .int a, .int b', x8] = .ok (.int w, [p7, .int n, .int most, .int sort, .list (hv.map enc3), .int jj, .int a, .int b', x8]) := e7
      obtain ⟨w', p8, hw, w0', w1', hp8⟩ : ∃ w' p8, gIfS (gTest (gOp hEq (gVar 3) (gC (.int (3))))) (xSet 8 (xOp hSub (xP (gOp hMul (gVar 8) (gOp hPow (gC (.int (10))) (gC (.int (27)))))) (xCallM .la 2 f_l_take 0 (xCons (xP (gC (.int (3)))) (xNil))))) (gNext) [p7, .int n, .int most, .int sort, .list (hv.map enc3), .int jj, .int a, .int b', .int (1 + w)]
          = .ok (.nx [p8, .int n, .int most, .int sort, .list (hv.map enc3), .int jj, .int a, .int b', .int w']) ∧ 1 ≤ w' ∧ w' ≤ 1000000000000000000000000000000 ∧ PoolOk p8 := by
        by_cases c : sort = 3
        · obtain ⟨c2, p8, e8, g0, g1, hp8⟩ := tk_ok (i := 0) (gA := xCons (xP (gC (.int (3)))) (xNil)) (ρ := [p7, .int n, .int most, .int sort, .list (hv.map enc3), .int jj, .int a, .int b', .int (1 + w)]) rfl rfl hp7 (by omega : (0 : Int) < 3) (by omega)
          have hmul : hMul (.int (1 + w)) (.int 1000000000000000000000000000) = .ok (.int ((1 + w) * 1000000000000000000000000000)) := hMul_l (by omega) (by omega)
          refine ⟨(1 + w) * 1000000000000000000000000000 - c2, p8, (if_t (by subst c; simp only [bnd_ok, gVar_def, gC_def, gOp_def, gUn_def, gNil_def, gCons_def, gIf_def, gTest_def, gNot_def, gAnd_def, gOr_def, gAndV_def, gOrV_def, gNotV_def, gCB_def, asB_b, hAdd_i, hSub_i, hLt_i, hLe_i, hGt_i, hGe_i, hMul_r, hMul_l, hMod_i, hDiv_s, hBand_i, hShr_i, hPow_10_18, hPow_10_27, hPow_10_28, hPow_10_29, hPow_10_30, hEq_i, hNe_i, hLen_l, hLen_t, hMin2_i, hMax2_i, hMin3_i, hInt1_b, hInt1_i, hBits_i, hListOf_l, hListOf_t, hTupOf_l, hTupOf_t, gSeqS_def, gSet_def, gRet_def, gIfS_def, gNext_def, gTup_def, gLst_def, List.getElem?_cons_zero, List.getElem?_cons_succ, List.set_cons_zero, List.set_cons_succ, List.length_cons, List.length_nil, Nat.zero_add, Nat.reduceAdd, Nat.reduceLeDiff, Nat.reduceSub, Nat.reduceMul, if_true, if_false, Bool.false_eq_true, List.replicate_succ, List.replicate_zero, List.cons_append, List.nil_append, tgN, tgT, tgCons, tgNil, Int.reducePow, Int.reduceAdd, Int.reduceSub, Int.reduceMul, decide_true, decide_false, Bool.not_true, Bool.not_false, gChain_def, hIsa_int, hIsa_intb, hIsa_list, hIsa_tuple, gDrop_def]; rfl)).trans (xset_ok (ρ' := [p8, .int n, .int most, .int sort, .list (hv.map enc3), .int jj, .int a, .int b', .int (1 + w)]) ?_), by omega, by omega, hp8⟩
          have q : gOp hMul (gVar 8) (gOp hPow (gC (.int (10))) (gC (.int (27)))) [p7, .int n, .int most, .int sort, .list (hv.map enc3), .int jj, .int a, .int b', .int (1 + w)] = .ok (.int ((1 + w) * 1000000000000000000000000000)) := by
            simp only [gOp_def, gVar_def, gC_def, List.getElem?_cons_zero, List.getElem?_cons_succ, bnd_ok, hPow27, hmul]
          rw [xOp_def, xP_def, q, bnd_ok, bnd_ok, e8, bnd_ok]
          simp only [hSub_i, bnd_ok]
          rfl
        · have c' : (sort == 3) = false := beq_eq_false_iff_ne.mpr c
          exact ⟨1 + w, p7, (if_f (by simp only [bnd_ok, gVar_def, gC_def, gOp_def, gUn_def, gNil_def, gCons_def, gIf_def, gTest_def, gNot_def, gAnd_def, gOr_def, gAndV_def, gOrV_def, gNotV_def, gCB_def, asB_b, hAdd_i, hSub_i, hLt_i, hLe_i, hGt_i, hGe_i, hMul_r, hMul_l, hMod_i, hDiv_s, hBand_i, hShr_i, hPow_10_18, hPow_10_27, hPow_10_28, hPow_10_29, hPow_10_30, hEq_i, hNe_i, hLen_l, hLen_t, hMin2_i, hMax2_i, hMin3_i, hInt1_b, hInt1_i, hBits_i, hListOf_l, hListOf_t, hTupOf_l, hTupOf_t, gSeqS_def, gSet_def, gRet_def, gIfS_def, gNext_def, gTup_def, gLst_def, List.getElem?_cons_zero, List.getElem?_cons_succ, List.set_cons_zero, List.set_cons_succ, List.length_cons, List.length_nil, Nat.zero_add, Nat.reduceAdd, Nat.reduceLeDiff, Nat.reduceSub, Nat.reduceMul, if_true, if_false, Bool.false_eq_true, List.replicate_succ, List.replicate_zero, List.cons_append, List.nil_append, tgN, tgT, tgCons, tgNil, Int.reducePow, Int.reduceAdd, Int.reduceSub, Int.reduceMul, decide_true, decide_false, Bool.not_true, Bool.not_false, gChain_def, hIsa_int, hIsa_intb, hIsa_list, hIsa_tuple, gDrop_def, c'])).trans rfl, by omega, by omega, hp7⟩
      have tok : 0 ≤ (if b' < a then b' else a) ∧ (if b' < a then b' else a) < (if b' > a then b' else a) ∧ (if b' > a then b' else a) < n := by
        refine ⟨?_, ?_, ?_⟩
        · split <;> omega
        · split <;> split <;> omega
        · split <;> omega
      refine ⟨[p3, .int n, .int most, .int sort, .list (hv.map enc3), .int jj, x6, x7, x8], _, rfl, .inl ?_, hv ++ [((if b' < a then b' else a), (if b' > a then b' else a), w')], p8, .int jj, .int a, .int b', .int w', rfl, hp8, by rw [List.length_append, hl]; rfl, ⟨fun t ht => ?_⟩⟩
      · unfold g_l_heavy_L1
        refine seq_step (xset_ok e4) ?_
        dsimp only [List.set]
        refine seq_step hbset ?_
        refine seq_step hif ?_
        refine seq_step (xset_ok (ρ' := [p7, .int n, .int most, .int sort, .list (hv.map enc3), .int jj, .int a, .int b', x8]) (d := .int (1 + w)) ?_) ?_
        · rw [xOp_def, xP_def, gC_def, bnd_ok, bnd_ok, e7]
          rfl
        dsimp only [List.set]
        refine seq_step hw ?_
        refine Eq.trans (gApp_l (i := 4) (ds := hv.map enc3) (d := enc3 ((if b' < a then b' else a), (if b' > a then b' else a), w')) rfl ?_ (by rw [List.length_map]; omega)) ?_
        · simp only [bnd_ok, gVar_def, gC_def, gOp_def, gUn_def, gNil_def, gCons_def, gIf_def, gTest_def, gNot_def, gAnd_def, gOr_def, gAndV_def, gOrV_def, gNotV_def, gCB_def, asB_b, hAdd_i, hSub_i, hLt_i, hLe_i, hGt_i, hGe_i, hMul_r, hMul_l, hMod_i, hDiv_s, hBand_i, hShr_i, hPow_10_18, hPow_10_27, hPow_10_28, hPow_10_29, hPow_10_30, hEq_i, hNe_i, hLen_l, hLen_t, hMin2_i, hMax2_i, hMin3_i, hInt1_b, hInt1_i, hBits_i, hListOf_l, hListOf_t, hTupOf_l, hTupOf_t, gSeqS_def, gSet_def, gRet_def, gIfS_def, gNext_def, gTup_def, gLst_def, List.getElem?_cons_zero, List.getElem?_cons_succ, List.set_cons_zero, List.set_cons_succ, List.length_cons, List.length_nil, Nat.zero_add, Nat.reduceAdd, Nat.reduceLeDiff, Nat.reduceSub, Nat.reduceMul, if_true, if_false, Bool.false_eq_true, List.replicate_succ, List.replicate_zero, List.cons_append, List.nil_append, tgN, tgT, tgCons, tgNil, Int.reducePow, Int.reduceAdd, Int.reduceSub, Int.reduceMul, decide_true, decide_false, Bool.not_true, Bool.not_false, gChain_def, hIsa_int, hIsa_intb, hIsa_list, hIsa_tuple, gDrop_def]
          rfl
        · rw [map3_snoc]
          rfl
      · rcases List.mem_append.mp ht with h | h
        · exact hok.ok t h
        · rw [List.mem_singleton.mp h]
          exact ⟨tok.1, tok.2.1, tok.2.2, w0', w1'⟩)
  rw [List.length_range] at hl
  refine ⟨hv, p3, fnL_rt ?_, hok, by omega, hp3⟩
  show g_l_heavy [p, .int n, .int most, .none, .none, .none, .none, .none, .none] = _
  unfold g_l_heavy
  refine seq_step (xset_ok e1) ?_
  dsimp only [List.set]
  refine seq_step (set_ok (d := .list []) (by rfl)) ?_
  dsimp only [List.set]
  have n2'' : decide (n < 2) = false := decide_eq_false n2
  refine seq_step ((if_f (by simp only [bnd_ok, gVar_def, gC_def, gOp_def, gUn_def, gNil_def, gCons_def, gIf_def, gTest_def, gNot_def, gAnd_def, gOr_def, gAndV_def, gOrV_def, gNotV_def, gCB_def, asB_b, hAdd_i, hSub_i, hLt_i, hLe_i, hGt_i, hGe_i, hMul_r, hMul_l, hMod_i, hDiv_s, hBand_i, hShr_i, hPow_10_18, hPow_10_27, hPow_10_28, hPow_10_29, hPow_10_30, hEq_i, hNe_i, hLen_l, hLen_t, hMin2_i, hMax2_i, hMin3_i, hInt1_b, hInt1_i, hBits_i, hListOf_l, hListOf_t, hTupOf_l, hTupOf_t, gSeqS_def, gSet_def, gRet_def, gIfS_def, gNext_def, gTup_def, gLst_def, List.getElem?_cons_zero, List.getElem?_cons_succ, List.set_cons_zero, List.set_cons_succ, List.length_cons, List.length_nil, Nat.zero_add, Nat.reduceAdd, Nat.reduceLeDiff, Nat.reduceSub, Nat.reduceMul, if_true, if_false, Bool.false_eq_true, List.replicate_succ, List.replicate_zero, List.cons_append, List.nil_append, tgN, tgT, tgCons, tgNil, Int.reducePow, Int.reduceAdd, Int.reduceSub, Int.reduceMul, decide_true, decide_false, Bool.not_true, Bool.not_false, gChain_def, hIsa_int, hIsa_intb, hIsa_list, hIsa_tuple, gDrop_def, n2''])).trans rfl) ?_
  refine seq_step (xfor_ok (ds := (List.range many.toNat).map fun (j : Nat) => PyData.int (0 + (j : Int))) (ρ' := [p2, .int n, .int most, .int sort, .list [], .none, .none, .none, .none]) ?_ hf) ?_
  · refine (xrng1_ok (j := many) (by rw [xCons_def, e2]; rfl) (by omega) (by omega)).trans ?_
    unfold rangeD
    rw [Int.sub_zero]
  · exact xretO_ok rfl rfl hp3.argD
theorem hSum_ints (xs : List Int) : hSum [.list (xs.map .int)] = .ok (.int xs.sum) := by
  unfold hSum
  simp only [allI_map]
end K49
end T_K49A

section T_K49B
set_option linter.all false
set_option maxRecDepth 100000
set_option maxHeartbeats 4000000
/-! K49B: the order of the places. -/
namespace K49
open PySem Sim FamA Heav

theorem gLst_nil (ρ : List Dt) : gLst gNil ρ = .ok (.list []) := by rw [gLst_def, gNil_def, bnd_ok, if_pos (by simp)]
theorem is_many_ok {n : Int} (n1 : 1 ≤ n) (n10 : n ≤ 10) : f_is_many [.int n] = .ok (.bool true) := by
  refine fnN_rt ?_
  show g_is_many [.int n] = _
  unfold g_is_many
  have e : gCallN 1 f_is_whole_records (gCons (gVar 0) (gNil)) [.int n] = .ok (.bool true) := callN_ok (ds := [.int n]) rfl rfl rfl
  have d1 : decide (1 ≤ n) = true := decide_eq_true n1
  have d2 : decide (n ≤ 10) = true := decide_eq_true n10
  simp only [bnd_ok, gVar_def, gC_def, gOp_def, gUn_def, gNil_def, gCons_def, gIf_def, gTest_def, gNot_def, gAnd_def, gOr_def, gAndV_def, gOrV_def, gNotV_def, gCB_def, asB_b, hAdd_i, hSub_i, hLt_i, hLe_i, hGt_i, hGe_i, hMul_r, hMul_l, hMod_i, hDiv_s, hBand_i, hShr_i, hPow_10_18, hPow_10_27, hPow_10_28, hPow_10_29, hPow_10_30, hEq_i, hNe_i, hLen_l, hLen_t, hMin2_i, hMax2_i, hMin3_i, hInt1_b, hInt1_i, hBits_i, hListOf_l, hListOf_t, hTupOf_l, hTupOf_t, gSeqS_def, gSet_def, gRet_def, gIfS_def, gNext_def, gTup_def, gLst_def, List.getElem?_cons_zero, List.getElem?_cons_succ, List.set_cons_zero, List.set_cons_succ, List.length_cons, List.length_nil, Nat.zero_add, Nat.reduceAdd, Nat.reduceLeDiff, Nat.reduceSub, Nat.reduceMul, if_true, if_false, Bool.false_eq_true, List.replicate_succ, List.replicate_zero, List.cons_append, List.nil_append, tgN, tgT, tgCons, tgNil, Int.reducePow, Int.reduceAdd, Int.reduceSub, Int.reduceMul, decide_true, decide_false, Bool.not_true, Bool.not_false, gChain_def, hIsa_int, hIsa_intb, hIsa_list, hIsa_tuple, gDrop_def, e, d1, d2]
theorem record_nil {n : Int} (n1 : 1 ≤ n) (n10 : n ≤ 10) : f_record_of [.int n, .list []] = .ok (.list []) := by
  refine fnL_rt ?_
  show g_record_of [.int n, .list [], .none, .none, .none, .none, .none, .none, .none] = _
  unfold g_record_of
  refine seq_step ((if_f ?_).trans rfl) ?_
  · have e : gCallN 1 f_is_many (gCons (gVar 0) (gNil)) [.int n, .list [], .none, .none, .none, .none, .none, .none, .none] = .ok (.bool true) := callN_ok (ds := [.int n]) rfl rfl (is_many_ok n1 n10)
    rw [gNot_def, gTest_def, e]
    rfl
  refine seq_step ((if_f (by rfl)).trans rfl) ?_
  refine seq_step (set_ok (d := .dict []) rfl) ?_
  dsimp only [List.set]
  refine seq_step (for_ok (ds := []) (by rfl) rfl) ?_
  have hst : gCB (one hSortT) (gCons (gTKeys 3) (gNil)) [.int n, .list [], .none, .dict [], .none, .none, .none, .none, .none] = .ok (.list []) := by
    have hk : gTKeys 3 [.int n, .list [], .none, .dict [], .none, .none, .none, .none, .none] = .ok (.list (([] : List (List Int)).map encL)) := rfl
    have hok : okT0 [] = true := rfl
    have hs : tsort [] = [] := List.perm_nil.mp (tsort_perm [])
    rw [gCB_def, gCons_def, hk, bnd_ok, gNil_def, bnd_ok, bnd_ok]
    unfold one hSortT
    simp only [allT_map, hok, if_true, hs]
    rfl
  refine seq_step (set_ok hst) ?_
  dsimp only [List.set]
  refine seq_step ((if_f (by rfl)).trans rfl) ?_
  refine seq_step (for_ok (ds := []) ?_ rfl) ?_
  · rw [rng2_ok (i := 1) (j := 0) (by rfl) (by omega) (by omega) (by omega) (by omega)]
    rfl
  · exact ret_ok rfl
theorem ix3_0 (t : T3) : hIx (enc3 t) (.int 0) = .ok (.int t.1) := rfl
theorem ix3_1 (t : T3) : hIx (enc3 t) (.int 1) = .ok (.int t.2.1) := rfl
theorem ix3_2 (t : T3) : hIx (enc3 t) (.int 2) = .ok (.int t.2.2) := rfl
theorem heavy_tie_ok {n : Int} {t : T3} (h1 : 0 ≤ t.1) (h2 : t.1 < t.2.1) (h3 : t.2.1 < n) (h4 : 1 ≤ t.2.2) (h5 : t.2.2 ≤ 1000000000000000000000000000000) : f_is_heavy_tie [.int n, enc3 t] = .ok (.bool true) := by
  refine fnN_rt ?_
  show g_is_heavy_tie [.int n, enc3 t, .none] = _
  unfold g_is_heavy_tie
  have hlc : gLc (gSeq (gVar 1)) (tgN 2) (gYes) (gCallN 1 f_is_whole_orders (gCons (gVar 2) (gNil))) [.int n, enc3 t, .none] = .ok (.list (([t.1, t.2.1, t.2.2].map fun _ => true).map .bool)) := by
    rw [gLc_map PyData.int (fun _ => true) (fun _ => PyData.bool true) (xs := [t.1, t.2.1, t.2.2]) (seqG_t (by rfl)) (by simp) fun x hx => ⟨[.int n, enc3 t, .int x], rfl, rfl, fun _ => callN_ok (ds := [.int x]) rfl rfl rfl⟩]
    rfl
  have hab := hAll_b ([t.1, t.2.1, t.2.2].map fun _ => true)
  have hi : gTest (gUn (hIsa .tuple) (gVar 1)) [.int n, enc3 t, .none] = .ok true := rfl
  have hl : gTest (gOp hNe (gCB hLen (gCons (gVar 1) (gNil))) (gC (.int (3)))) [.int n, enc3 t, .none] = .ok false := by
    rw [gTest_def, gOp_def]
    show bnd (hNe (.int 3) (.int 3)) asB = _
    rw [hNe_i]
    rfl
  refine seq_step ((if_f ?_).trans rfl) ?_
  · rw [gOr_def, gNot_def, hi, bnd_ok, bnd_ok, gOr_def, hl, bnd_ok, gNot_def, gTest_def, gCB_def, gCons_def, hlc, bnd_ok, gNil_def, bnd_ok, bnd_ok, hab]
    rfl
  · refine ret_ok ?_
    have d1 : decide (0 ≤ t.1) = true := decide_eq_true h1
    have d2 : decide (t.1 < t.2.1) = true := decide_eq_true h2
    have d3 : decide (t.2.1 < n) = true := decide_eq_true h3
    have d4 : decide (1 ≤ t.2.2) = true := decide_eq_true h4
    have d5 : decide (t.2.2 ≤ 1000000000000000000000000000000) = true := decide_eq_true h5
    simp only [bnd_ok, gVar_def, gC_def, gOp_def, gUn_def, gNil_def, gCons_def, gIf_def, gTest_def, gNot_def, gAnd_def, gOr_def, gAndV_def, gOrV_def, gNotV_def, gCB_def, asB_b, hAdd_i, hSub_i, hLt_i, hLe_i, hGt_i, hGe_i, hMul_r, hMul_l, hMod_i, hDiv_s, hBand_i, hShr_i, hPow_10_18, hPow_10_27, hPow_10_28, hPow_10_29, hPow_10_30, hEq_i, hNe_i, hLen_l, hLen_t, hMin2_i, hMax2_i, hMin3_i, hInt1_b, hInt1_i, hBits_i, hListOf_l, hListOf_t, hTupOf_l, hTupOf_t, gSeqS_def, gSet_def, gRet_def, gIfS_def, gNext_def, gTup_def, gLst_def, List.getElem?_cons_zero, List.getElem?_cons_succ, List.set_cons_zero, List.set_cons_succ, List.length_cons, List.length_nil, Nat.zero_add, Nat.reduceAdd, Nat.reduceLeDiff, Nat.reduceSub, Nat.reduceMul, if_true, if_false, Bool.false_eq_true, List.replicate_succ, List.replicate_zero, List.cons_append, List.nil_append, tgN, tgT, tgCons, tgNil, Int.reducePow, Int.reduceAdd, Int.reduceSub, Int.reduceMul, decide_true, decide_false, Bool.not_true, Bool.not_false, gChain_def, hIsa_int, hIsa_intb, hIsa_list, hIsa_tuple, gDrop_def, gChain3_def, ix3_0, ix3_1, ix3_2, d1, d2, d3, d4, d5]
theorem look_ok {n : Int} {hv : List T3} (n1 : 1 ≤ n) (n10 : n ≤ 10) (h : HOk n hv) (hl : hv.length ≤ 40) : f_look_at_heavy [.int n, .list (hv.map enc3)] = .ok .none := by
  refine fnN_nx (ρ := [.int n, .list (hv.map enc3), .none]) ?_
  show g_look_at_heavy [.int n, .list (hv.map enc3), .none] = _
  unfold g_look_at_heavy
  have c1 : gCallN 2 f_record_of (gCons (gVar 0) (gCons (gLst (gNil)) (gNil))) [.int n, .list (hv.map enc3), .none] = .ok (.list []) := callN_ok (ds := [.int n, .list []]) (by rw [gCons_def, gCons_def, gLst_nil]; rfl) rfl (record_nil n1 n10)
  refine seq_step (ρ' := [.int n, .list (hv.map enc3), .none]) (by rw [gDrop_def, c1]; rfl) ?_
  have hgt : decide ((40 : Int) < (hv.length : Int)) = false := by rw [decide_eq_false_iff_not]; omega
  refine seq_step ((if_f (by simp only [bnd_ok, gVar_def, gC_def, gOp_def, gUn_def, gNil_def, gCons_def, gIf_def, gTest_def, gNot_def, gAnd_def, gOr_def, gAndV_def, gOrV_def, gNotV_def, gCB_def, asB_b, hAdd_i, hSub_i, hLt_i, hLe_i, hGt_i, hGe_i, hMul_r, hMul_l, hMod_i, hDiv_s, hBand_i, hShr_i, hPow_10_18, hPow_10_27, hPow_10_28, hPow_10_29, hPow_10_30, hEq_i, hNe_i, hLen_l, hLen_t, hMin2_i, hMax2_i, hMin3_i, hInt1_b, hInt1_i, hBits_i, hListOf_l, hListOf_t, hTupOf_l, hTupOf_t, gSeqS_def, gSet_def, gRet_def, gIfS_def, gNext_def, gTup_def, gLst_def, List.getElem?_cons_zero, List.getElem?_cons_succ, List.set_cons_zero, List.set_cons_succ, List.length_cons, List.length_nil, Nat.zero_add, Nat.reduceAdd, Nat.reduceLeDiff, Nat.reduceSub, Nat.reduceMul, if_true, if_false, Bool.false_eq_true, List.replicate_succ, List.replicate_zero, List.cons_append, List.nil_append, tgN, tgT, tgCons, tgNil, Int.reducePow, Int.reduceAdd, Int.reduceSub, Int.reduceMul, decide_true, decide_false, Bool.not_true, Bool.not_false, gChain_def, hIsa_int, hIsa_intb, hIsa_list, hIsa_tuple, gDrop_def, List.length_map, hgt])).trans rfl) ?_
  have hlc : gLc (gSeq (gVar 1)) (tgN 2) (gYes) (gCallN 2 f_is_heavy_tie (gCons (gVar 0) (gCons (gVar 2) (gNil)))) [.int n, .list (hv.map enc3), .none] = .ok (.list ((hv.map fun _ => true).map .bool)) := by
    rw [gLc_map enc3 (fun _ => true) (fun _ => PyData.bool true) (xs := hv) (seqG_l (by rfl)) (by omega) fun x hx => ⟨[.int n, .list (hv.map enc3), enc3 x], rfl, rfl, fun _ => callN_ok (ds := [.int n, enc3 x]) rfl rfl (by
      obtain ⟨h1, h2, h3, h4, h5⟩ := h.ok x hx
      exact heavy_tie_ok h1 h2 h3 h4 h5)⟩]
    rw [List.filter_eq_self.mpr (fun _ _ => rfl), List.map_map]
    rfl
  have hab := hAll_b (hv.map fun _ => true)
  rw [show (hv.map fun _ => true).all id = true by simp] at hab
  refine (if_f ?_).trans rfl
  rw [gNot_def, gTest_def, gCB_def, gCons_def, hlc, bnd_ok, gNil_def, bnd_ok, bnd_ok, hab]
  rfl
/-! the heaviest place that is left -/
def np (w : Int → Int) : List Int → Int → Int
  | [], b => b
  | p :: L, b => np w L (if w b < w p then p else b)
theorem np_ok (w : Int → Int) : ∀ (L : List Int) (b : Int), (np w L b = b ∨ np w L b ∈ L) ∧ w b ≤ w (np w L b) ∧ ∀ q ∈ L, w q ≤ w (np w L b)
  | [], b => ⟨.inl rfl, Int.le_refl _, fun q hq => nomatch hq⟩
  | p :: L, b => by
    obtain ⟨h1, h2, h3⟩ := np_ok w L (if w b < w p then p else b)
    have e : np w (p :: L) b = np w L (if w b < w p then p else b) := rfl
    rw [e]
    have h4 : w b ≤ w (if w b < w p then p else b) ∧ w p ≤ w (if w b < w p then p else b) := by
      by_cases c : w b < w p
      · rw [if_pos c]
        omega
      · rw [if_neg c]
        omega
    refine ⟨?_, by omega, fun q hq => ?_⟩
    · rcases h1 with h | h
      · rw [h]
        split
        · exact .inr List.mem_cons_self
        · exact .inl rfl
      · exact .inr (List.mem_cons_of_mem _ h)
    · rcases List.mem_cons.mp hq with rfl | hq
      · omega
      · exact h3 q hq
def wv (W : List Int) : Int → Int := fun q => W.getD q.toNat 0
theorem wv_ix {W : List Int} {q : Int} (h0 : 0 ≤ q) (h1 : q < W.length) : hIx (.list (W.map .int)) (.int q) = .ok (.int (wv W q)) := by
  have hq : q.toNat < W.length := by omega
  rw [hIx_ints h0 h1]
  unfold wv
  rw [List.getD_eq_getElem?_getD, List.getElem?_eq_getElem hq]
  rfl
theorem np_loop {W : List Int} (L : Dt) : ∀ (M : List Int) (b : Int) (x3 : Dt), (∀ q ∈ M, 0 ≤ q ∧ q < W.length) → 0 ≤ b → b < W.length → ∃ y3, forE (tgN 3) g_next_place_L1 (M.map .int) [.list (W.map .int), L, .int b, x3] = .ok (.nx [.list (W.map .int), L, .int (np (wv W) M b), y3])
  | [], b, x3, _, _, _ => ⟨x3, rfl⟩
  | p :: M, b, x3, hM, b0, b1 => by
    obtain ⟨p0, p1⟩ := hM p List.mem_cons_self
    have hb : g_next_place_L1 [.list (W.map .int), L, .int b, .int p] = .ok (.nx [.list (W.map .int), L, .int (if wv W b < wv W p then p else b), .int p]) := by
      have i1 := wv_ix (W := W) p0 p1
      have i2 := wv_ix (W := W) b0 b1
      unfold g_next_place_L1
      by_cases c : wv W b < wv W p
      · rw [if_pos c]
        exact (if_t (by simp only [bnd_ok, gVar_def, gC_def, gOp_def, gUn_def, gNil_def, gCons_def, gIf_def, gTest_def, gNot_def, gAnd_def, gOr_def, gAndV_def, gOrV_def, gNotV_def, gCB_def, asB_b, hAdd_i, hSub_i, hLt_i, hLe_i, hGt_i, hGe_i, hMul_r, hMul_l, hMod_i, hDiv_s, hBand_i, hShr_i, hPow_10_18, hPow_10_27, hPow_10_28, hPow_10_29, hPow_10_30, hEq_i, hNe_i, hLen_l, hLen_t, hMin2_i, hMax2_i, hMin3_i, hInt1_b, hInt1_i, hBits_i, hListOf_l, hListOf_t, hTupOf_l, hTupOf_t, gSeqS_def, gSet_def, gRet_def, gIfS_def, gNext_def, gTup_def, gLst_def, List.getElem?_cons_zero, List.getElem?_cons_succ, List.set_cons_zero, List.set_cons_succ, List.length_cons, List.length_nil, Nat.zero_add, Nat.reduceAdd, Nat.reduceLeDiff, Nat.reduceSub, Nat.reduceMul, if_true, if_false, Bool.false_eq_true, List.replicate_succ, List.replicate_zero, List.cons_append, List.nil_append, tgN, tgT, tgCons, tgNil, Int.reducePow, Int.reduceAdd, Int.reduceSub, Int.reduceMul, decide_true, decide_false, Bool.not_true, Bool.not_false, gChain_def, hIsa_int, hIsa_intb, hIsa_list, hIsa_tuple, gDrop_def, i1, i2, c])).trans (set_ok (by rfl))
      · rw [if_neg c]
        exact (if_f (by simp only [bnd_ok, gVar_def, gC_def, gOp_def, gUn_def, gNil_def, gCons_def, gIf_def, gTest_def, gNot_def, gAnd_def, gOr_def, gAndV_def, gOrV_def, gNotV_def, gCB_def, asB_b, hAdd_i, hSub_i, hLt_i, hLe_i, hGt_i, hGe_i, hMul_r, hMul_l, hMod_i, hDiv_s, hBand_i, hShr_i, hPow_10_18, hPow_10_27, hPow_10_28, hPow_10_29, hPow_10_30, hEq_i, hNe_i, hLen_l, hLen_t, hMin2_i, hMax2_i, hMin3_i, hInt1_b, hInt1_i, hBits_i, hListOf_l, hListOf_t, hTupOf_l, hTupOf_t, gSeqS_def, gSet_def, gRet_def, gIfS_def, gNext_def, gTup_def, gLst_def, List.getElem?_cons_zero, List.getElem?_cons_succ, List.set_cons_zero, List.set_cons_succ, List.length_cons, List.length_nil, Nat.zero_add, Nat.reduceAdd, Nat.reduceLeDiff, Nat.reduceSub, Nat.reduceMul, if_true, if_false, Bool.false_eq_true, List.replicate_succ, List.replicate_zero, List.cons_append, List.nil_append, tgN, tgT, tgCons, tgNil, Int.reducePow, Int.reduceAdd, Int.reduceSub, Int.reduceMul, decide_true, decide_false, Bool.not_true, Bool.not_false, gChain_def, hIsa_int, hIsa_intb, hIsa_list, hIsa_tuple, gDrop_def, i1, i2, c])).trans rfl
    obtain ⟨y3, ih⟩ := np_loop L M (if wv W b < wv W p then p else b) (.int p) (fun q hq => hM q (List.mem_cons_of_mem _ hq)) (by split <;> omega) (by split <;> omega)
    refine ⟨y3, ?_⟩
    rw [List.map_cons]
    unfold forE
    have e : tgN 3 (.int p) [.list (W.map .int), L, .int b, x3] = .ok [.list (W.map .int), L, .int b, .int p] := rfl
    rw [e]
    simp only [hb, bnd_ok]
    exact ih
theorem next_ok {W : List Int} {c : Int} {L : List Int} (h : ∀ q ∈ c :: L, 0 ≤ q ∧ q < W.length) : f_next_place [.list (W.map .int), .list ((c :: L).map .int)] = .ok (.int (np (wv W) (c :: L) c)) := by
  obtain ⟨c0, c1⟩ := h c List.mem_cons_self
  obtain ⟨y3, hl⟩ := np_loop (.list ((c :: L).map .int)) (c :: L) c .none h c0 c1
  refine fnN_rt ?_
  show g_next_place [.list (W.map .int), .list ((c :: L).map .int), .none, .none] = _
  unfold g_next_place
  refine seq_step (set_ok (d := .int c) (by rw [gOp_def]; exact hIx_ints (xs := c :: L) (i := 0) (by omega) (by rw [List.length_cons]; omega))) ?_
  dsimp only [List.set]
  exact seq_step (for_ok (ds := (c :: L).map .int) (seqG_l (by rfl)) hl) (ret_ok (by rfl))
/-! the weights grow -/
def dl (ts : List T3) (p q : Int) : Int := (ts.map fun t => (if t.1 = p ∧ t.2.1 = q then t.2.2 else 0) + (if t.2.1 = p ∧ t.1 = q then t.2.2 else 0)).sum
theorem dl_cons (t : T3) (ts : List T3) (p q : Int) : dl (t :: ts) p q = ((if t.1 = p ∧ t.2.1 = q then t.2.2 else 0) + (if t.2.1 = p ∧ t.1 = q then t.2.2 else 0)) + dl ts p q := rfl
theorem wv_set {W : List Int} {i : Nat} {v q : Int} (hi : i < W.length) (q0 : 0 ≤ q) : wv (W.set i v) q = if q.toNat = i then v else wv W q := by
  unfold wv
  rw [List.getD_eq_getElem?_getD, List.getElem?_set, List.getD_eq_getElem?_getD]
  by_cases c : i = q.toNat
  · rw [if_pos c, if_pos hi, if_pos c.symm]
    rfl
  · rw [if_neg c, if_neg (Ne.symm c)]
theorem add_loop {n p : Int} (d1 d2 d4 d5 : Dt) : ∀ (ts : List T3) (W : List Int) (x7 x8 x9 : Dt), (∀ t ∈ ts, 0 ≤ t.1 ∧ t.1 < t.2.1 ∧ t.2.1 < n) → W.length = n.toNat →
    ∃ W' y7 y8 y9, forE (tgT (tgCons (tgN 7) (tgCons (tgN 8) (tgCons (tgN 9) (tgNil))))) g_order_L1 (ts.map enc3) [.int n, d1, d2, .list (W.map .int), d4, d5, .int p, x7, x8, x9] = .ok (.nx [.int n, d1, d2, .list (W'.map .int), d4, d5, .int p, y7, y8, y9]) ∧ W'.length = n.toNat ∧ ∀ q, 0 ≤ q → q < n → wv W' q = wv W q + dl ts p q
  | [], W, x7, x8, x9, _, hl => ⟨W, x7, x8, x9, rfl, hl, fun q _ _ => by show wv W q = wv W q + 0; omega⟩
  | t :: ts, W, x7, x8, x9, ht, hl => by
    obtain ⟨a0, ab, bn⟩ := ht t List.mem_cons_self
    have la : t.1.toNat < W.length := by omega
    have lb : t.2.1.toNat < W.length := by omega
    obtain ⟨W1, hb, l1, w1⟩ : ∃ W1 : List Int, g_order_L1 [.int n, d1, d2, .list (W.map .int), d4, d5, .int p, .int t.1, .int t.2.1, .int t.2.2] = .ok (.nx [.int n, d1, d2, .list (W1.map .int), d4, d5, .int p, .int t.1, .int t.2.1, .int t.2.2]) ∧ W1.length = n.toNat ∧ ∀ q, 0 ≤ q → q < n → wv W1 q = wv W q + ((if t.1 = p ∧ t.2.1 = q then t.2.2 else 0) + (if t.2.1 = p ∧ t.1 = q then t.2.2 else 0)) := by
      unfold g_order_L1
      have gv : ∀ {i : Nat} (h : i < W.length), W[i] = W.getD i 0 := fun {i} h => by rw [List.getD_eq_getElem?_getD, List.getElem?_eq_getElem h]; rfl
      by_cases c1 : t.1 = p
      · have c2 : ¬ t.2.1 = p := by omega
        have e1 : (t.1 == p) = true := beq_iff_eq.mpr c1
        have e2 : (t.2.1 == p) = false := beq_eq_false_iff_ne.mpr c2
        refine ⟨W.set t.2.1.toNat (W[t.2.1.toNat] + t.2.2), ?_, by rw [List.length_set, hl], fun q q0 qn => ?_⟩
        · refine seq_step ((if_t (by simp only [bnd_ok, gVar_def, gC_def, gOp_def, gUn_def, gNil_def, gCons_def, gIf_def, gTest_def, gNot_def, gAnd_def, gOr_def, gAndV_def, gOrV_def, gNotV_def, gCB_def, asB_b, hAdd_i, hSub_i, hLt_i, hLe_i, hGt_i, hGe_i, hMul_r, hMul_l, hMod_i, hDiv_s, hBand_i, hShr_i, hPow_10_18, hPow_10_27, hPow_10_28, hPow_10_29, hPow_10_30, hEq_i, hNe_i, hLen_l, hLen_t, hMin2_i, hMax2_i, hMin3_i, hInt1_b, hInt1_i, hBits_i, hListOf_l, hListOf_t, hTupOf_l, hTupOf_t, gSeqS_def, gSet_def, gRet_def, gIfS_def, gNext_def, gTup_def, gLst_def, List.getElem?_cons_zero, List.getElem?_cons_succ, List.set_cons_zero, List.set_cons_succ, List.length_cons, List.length_nil, Nat.zero_add, Nat.reduceAdd, Nat.reduceLeDiff, Nat.reduceSub, Nat.reduceMul, if_true, if_false, Bool.false_eq_true, List.replicate_succ, List.replicate_zero, List.cons_append, List.nil_append, tgN, tgT, tgCons, tgNil, Int.reducePow, Int.reduceAdd, Int.reduceSub, Int.reduceMul, decide_true, decide_false, Bool.not_true, Bool.not_false, gChain_def, hIsa_int, hIsa_intb, hIsa_list, hIsa_tuple, gDrop_def, e1])).trans (augI_ok (ns := W) (k := t.2.1) (y := t.2.2) rfl rfl rfl (by omega) lb)) ?_
          dsimp only [List.set]
          exact (if_f (by simp only [bnd_ok, gVar_def, gC_def, gOp_def, gUn_def, gNil_def, gCons_def, gIf_def, gTest_def, gNot_def, gAnd_def, gOr_def, gAndV_def, gOrV_def, gNotV_def, gCB_def, asB_b, hAdd_i, hSub_i, hLt_i, hLe_i, hGt_i, hGe_i, hMul_r, hMul_l, hMod_i, hDiv_s, hBand_i, hShr_i, hPow_10_18, hPow_10_27, hPow_10_28, hPow_10_29, hPow_10_30, hEq_i, hNe_i, hLen_l, hLen_t, hMin2_i, hMax2_i, hMin3_i, hInt1_b, hInt1_i, hBits_i, hListOf_l, hListOf_t, hTupOf_l, hTupOf_t, gSeqS_def, gSet_def, gRet_def, gIfS_def, gNext_def, gTup_def, gLst_def, List.getElem?_cons_zero, List.getElem?_cons_succ, List.set_cons_zero, List.set_cons_succ, List.length_cons, List.length_nil, Nat.zero_add, Nat.reduceAdd, Nat.reduceLeDiff, Nat.reduceSub, Nat.reduceMul, if_true, if_false, Bool.false_eq_true, List.replicate_succ, List.replicate_zero, List.cons_append, List.nil_append, tgN, tgT, tgCons, tgNil, Int.reducePow, Int.reduceAdd, Int.reduceSub, Int.reduceMul, decide_true, decide_false, Bool.not_true, Bool.not_false, gChain_def, hIsa_int, hIsa_intb, hIsa_list, hIsa_tuple, gDrop_def, e2])).trans rfl
        · rw [wv_set lb q0, gv lb]
          by_cases c : q.toNat = t.2.1.toNat
          · have : t.2.1 = q := by omega
            subst this
            rw [if_pos rfl, if_pos ⟨c1, rfl⟩, if_neg (fun z => c2 z.1)]
            unfold wv
            omega
          · rw [if_neg c, if_neg (fun z => by have := z.2; omega), if_neg (fun z => c2 z.1)]
            omega
      · have e1 : (t.1 == p) = false := beq_eq_false_iff_ne.mpr c1
        by_cases c2 : t.2.1 = p
        · have e2 : (t.2.1 == p) = true := beq_iff_eq.mpr c2
          refine ⟨W.set t.1.toNat (W[t.1.toNat] + t.2.2), ?_, by rw [List.length_set, hl], fun q q0 qn => ?_⟩
          · refine seq_step ((if_f (by simp only [bnd_ok, gVar_def, gC_def, gOp_def, gUn_def, gNil_def, gCons_def, gIf_def, gTest_def, gNot_def, gAnd_def, gOr_def, gAndV_def, gOrV_def, gNotV_def, gCB_def, asB_b, hAdd_i, hSub_i, hLt_i, hLe_i, hGt_i, hGe_i, hMul_r, hMul_l, hMod_i, hDiv_s, hBand_i, hShr_i, hPow_10_18, hPow_10_27, hPow_10_28, hPow_10_29, hPow_10_30, hEq_i, hNe_i, hLen_l, hLen_t, hMin2_i, hMax2_i, hMin3_i, hInt1_b, hInt1_i, hBits_i, hListOf_l, hListOf_t, hTupOf_l, hTupOf_t, gSeqS_def, gSet_def, gRet_def, gIfS_def, gNext_def, gTup_def, gLst_def, List.getElem?_cons_zero, List.getElem?_cons_succ, List.set_cons_zero, List.set_cons_succ, List.length_cons, List.length_nil, Nat.zero_add, Nat.reduceAdd, Nat.reduceLeDiff, Nat.reduceSub, Nat.reduceMul, if_true, if_false, Bool.false_eq_true, List.replicate_succ, List.replicate_zero, List.cons_append, List.nil_append, tgN, tgT, tgCons, tgNil, Int.reducePow, Int.reduceAdd, Int.reduceSub, Int.reduceMul, decide_true, decide_false, Bool.not_true, Bool.not_false, gChain_def, hIsa_int, hIsa_intb, hIsa_list, hIsa_tuple, gDrop_def, e1])).trans rfl) ?_
            exact (if_t (by simp only [bnd_ok, gVar_def, gC_def, gOp_def, gUn_def, gNil_def, gCons_def, gIf_def, gTest_def, gNot_def, gAnd_def, gOr_def, gAndV_def, gOrV_def, gNotV_def, gCB_def, asB_b, hAdd_i, hSub_i, hLt_i, hLe_i, hGt_i, hGe_i, hMul_r, hMul_l, hMod_i, hDiv_s, hBand_i, hShr_i, hPow_10_18, hPow_10_27, hPow_10_28, hPow_10_29, hPow_10_30, hEq_i, hNe_i, hLen_l, hLen_t, hMin2_i, hMax2_i, hMin3_i, hInt1_b, hInt1_i, hBits_i, hListOf_l, hListOf_t, hTupOf_l, hTupOf_t, gSeqS_def, gSet_def, gRet_def, gIfS_def, gNext_def, gTup_def, gLst_def, List.getElem?_cons_zero, List.getElem?_cons_succ, List.set_cons_zero, List.set_cons_succ, List.length_cons, List.length_nil, Nat.zero_add, Nat.reduceAdd, Nat.reduceLeDiff, Nat.reduceSub, Nat.reduceMul, if_true, if_false, Bool.false_eq_true, List.replicate_succ, List.replicate_zero, List.cons_append, List.nil_append, tgN, tgT, tgCons, tgNil, Int.reducePow, Int.reduceAdd, Int.reduceSub, Int.reduceMul, decide_true, decide_false, Bool.not_true, Bool.not_false, gChain_def, hIsa_int, hIsa_intb, hIsa_list, hIsa_tuple, gDrop_def, e2])).trans (augI_ok (ns := W) (k := t.1) (y := t.2.2) rfl rfl rfl (by omega) la)
          · rw [wv_set la q0, gv la]
            by_cases c : q.toNat = t.1.toNat
            · have : t.1 = q := by omega
              subst this
              rw [if_pos rfl, if_neg (fun z => c1 z.1), if_pos ⟨c2, rfl⟩]
              unfold wv
              omega
            · rw [if_neg c, if_neg (fun z => c1 z.1), if_neg (fun z => by have := z.2; omega)]
              omega
        · have e2 : (t.2.1 == p) = false := beq_eq_false_iff_ne.mpr c2
          refine ⟨W, ?_, hl, fun q q0 qn => ?_⟩
          · refine seq_step ((if_f (by simp only [bnd_ok, gVar_def, gC_def, gOp_def, gUn_def, gNil_def, gCons_def, gIf_def, gTest_def, gNot_def, gAnd_def, gOr_def, gAndV_def, gOrV_def, gNotV_def, gCB_def, asB_b, hAdd_i, hSub_i, hLt_i, hLe_i, hGt_i, hGe_i, hMul_r, hMul_l, hMod_i, hDiv_s, hBand_i, hShr_i, hPow_10_18, hPow_10_27, hPow_10_28, hPow_10_29, hPow_10_30, hEq_i, hNe_i, hLen_l, hLen_t, hMin2_i, hMax2_i, hMin3_i, hInt1_b, hInt1_i, hBits_i, hListOf_l, hListOf_t, hTupOf_l, hTupOf_t, gSeqS_def, gSet_def, gRet_def, gIfS_def, gNext_def, gTup_def, gLst_def, List.getElem?_cons_zero, List.getElem?_cons_succ, List.set_cons_zero, List.set_cons_succ, List.length_cons, List.length_nil, Nat.zero_add, Nat.reduceAdd, Nat.reduceLeDiff, Nat.reduceSub, Nat.reduceMul, if_true, if_false, Bool.false_eq_true, List.replicate_succ, List.replicate_zero, List.cons_append, List.nil_append, tgN, tgT, tgCons, tgNil, Int.reducePow, Int.reduceAdd, Int.reduceSub, Int.reduceMul, decide_true, decide_false, Bool.not_true, Bool.not_false, gChain_def, hIsa_int, hIsa_intb, hIsa_list, hIsa_tuple, gDrop_def, e1])).trans rfl) ?_
            exact (if_f (by simp only [bnd_ok, gVar_def, gC_def, gOp_def, gUn_def, gNil_def, gCons_def, gIf_def, gTest_def, gNot_def, gAnd_def, gOr_def, gAndV_def, gOrV_def, gNotV_def, gCB_def, asB_b, hAdd_i, hSub_i, hLt_i, hLe_i, hGt_i, hGe_i, hMul_r, hMul_l, hMod_i, hDiv_s, hBand_i, hShr_i, hPow_10_18, hPow_10_27, hPow_10_28, hPow_10_29, hPow_10_30, hEq_i, hNe_i, hLen_l, hLen_t, hMin2_i, hMax2_i, hMin3_i, hInt1_b, hInt1_i, hBits_i, hListOf_l, hListOf_t, hTupOf_l, hTupOf_t, gSeqS_def, gSet_def, gRet_def, gIfS_def, gNext_def, gTup_def, gLst_def, List.getElem?_cons_zero, List.getElem?_cons_succ, List.set_cons_zero, List.set_cons_succ, List.length_cons, List.length_nil, Nat.zero_add, Nat.reduceAdd, Nat.reduceLeDiff, Nat.reduceSub, Nat.reduceMul, if_true, if_false, Bool.false_eq_true, List.replicate_succ, List.replicate_zero, List.cons_append, List.nil_append, tgN, tgT, tgCons, tgNil, Int.reducePow, Int.reduceAdd, Int.reduceSub, Int.reduceMul, decide_true, decide_false, Bool.not_true, Bool.not_false, gChain_def, hIsa_int, hIsa_intb, hIsa_list, hIsa_tuple, gDrop_def, e2])).trans rfl
          · rw [if_neg (fun z => c1 z.1), if_neg (fun z => c2 z.1)]
            omega
    obtain ⟨W2, y7, y8, y9, ih, l2, w2⟩ := add_loop (n := n) (p := p) d1 d2 d4 d5 ts W1 (.int t.1) (.int t.2.1) (.int t.2.2) (fun u hu => ht u (List.mem_cons_of_mem _ hu)) l1
    refine ⟨W2, y7, y8, y9, ?_, l2, fun q q0 qn => by rw [w2 q q0 qn, w1 q q0 qn, dl_cons]; omega⟩
    rw [List.map_cons]
    unfold forE
    have e : tgT (tgCons (tgN 7) (tgCons (tgN 8) (tgCons (tgN 9) (tgNil)))) (enc3 t) [.int n, d1, d2, .list (W.map .int), d4, d5, .int p, x7, x8, x9] = .ok [.int n, d1, d2, .list (W.map .int), d4, d5, .int p, .int t.1, .int t.2.1, .int t.2.2] := rfl
    rw [e]
    simp only [hb, bnd_ok]
    exact ih
theorem wt_snoc {hv : List T3} {F : List Int} {p q : Int} (hp : p ∉ F) : wt hv (F ++ [p]) q = wt hv F q + dl hv p q := by
  induction hv with
  | nil => rfl
  | cons t hv ih =>
    have e1 : ∀ A, wt (t :: hv) A q = ((if t.1 ∈ A ∧ t.2.1 = q then t.2.2 else 0) + (if t.2.1 ∈ A ∧ t.1 = q then t.2.2 else 0)) + wt hv A q := fun _ => rfl
    rw [e1, e1, dl_cons, ih]
    have m : ∀ a, a ∈ F ++ [p] ↔ a ∈ F ∨ a = p := fun a => by rw [List.mem_append, List.mem_singleton]
    simp only [m]
    have k1 : t.1 = p → ¬ t.1 ∈ F := fun e z => hp (e ▸ z)
    have k2 : t.2.1 = p → ¬ t.2.1 ∈ F := fun e z => hp (e ▸ z)
    by_cases a1 : t.1 ∈ F <;> by_cases a2 : t.1 = p <;> by_cases b1 : t.2.1 ∈ F <;> by_cases b2 : t.2.1 = p <;> by_cases c1 : t.2.1 = q <;> by_cases c2 : t.1 = q <;> simp [a1, a2, b1, b2, c1, c2] at k1 k2 ⊢ <;> (try omega) <;> simp_all <;> omega
/-! the places one after the other -/
def lft (n : Int) (F : List Int) : List Int := (pl n).filter fun q => decide (q ∉ F)
def nxt (n : Int) (hv : List T3) (F : List Int) : Int := match lft n F with
  | [] => 0
  | c :: L => np (wt hv F) (c :: L) c
def run (n : Int) (hv : List T3) (first : Int) : Nat → List Int → List Int
  | 0, F => F
  | m + 1, F => run n hv first m (F ++ [if F = [] then first else nxt n hv F])
theorem np_congr {w w' : Int → Int} : ∀ (L : List Int) (b : Int), (∀ q ∈ L, w q = w' q) → w b = w' b → np w L b = np w' L b
  | [], _, _, _ => rfl
  | p :: L, b, h, hb => by
    have hp := h p List.mem_cons_self
    unfold np
    rw [hp, hb]
    exact np_congr L _ (fun q hq => h q (List.mem_cons_of_mem _ hq)) (by split <;> assumption)
structure Going (n : Int) (hv : List T3) (first : Int) (F L W : List Int) : Prop where
  nd : F.Nodup
  rg : ∀ q ∈ F, 0 ≤ q ∧ q < n
  lf : L = (pl n).filter fun q => decide (q ∉ F)
  wl : W.length = n.toNat
  ws : ∀ q, 0 ≤ q → q < n → wv W q = wt hv F q
  ma : MA n hv F
  hd : F = [] ∨ F.head? = some first
theorem rem_eq {L : List Int} (hn : L.Nodup) (p : Int) : L.eraseIdx (L.idxOf p) = L.filter fun q => decide (q ≠ p) := by
  rw [← List.erase_eq_eraseIdx_of_idxOf rfl, hn.erase_eq_filter]
  refine List.filter_congr fun q _ => ?_
  by_cases c : q = p <;> simp [c]
theorem take_snoc {F : List Int} {p : Int} {i : Nat} (h : i ≤ F.length) : (F ++ [p]).take i = F.take i := by
  rw [List.take_append_of_le_length h]
theorem ma_snoc {n p : Int} {hv : List T3} {F : List Int} (m : MA n hv F) (h : F ≠ [] → ∀ q, 0 ≤ q → q < n → q ∉ F → wt hv F q ≤ wt hv F p) : MA n hv (F ++ [p]) := fun i hi i0 q q0 qn hq => by
  rw [List.length_append, List.length_singleton] at hi
  by_cases c : i < F.length
  · rw [take_snoc (by omega)] at hq ⊢
    rw [List.getElem_append_left c]
    exact m i c i0 q q0 qn hq
  · have e : i = F.length := by omega
    subst e
    rw [take_snoc (Nat.le_refl _), List.take_length] at hq ⊢
    rw [List.getElem_append_right (Nat.le_refl _)]
    simp only [Nat.sub_self, List.getElem_cons_zero]
    exact h (fun z => by rw [z] at i0; exact absurd i0 (Nat.lt_irrefl _)) q q0 qn hq
theorem while_ok {n first : Int} {hv : List T3} (w : HOk n hv) (n10 : n ≤ 10) (f0 : 0 ≤ first) (f1 : first < n) : ∀ (m fuel : Nat) (F L W : List Int) (place : Int) (x7 x8 x9 : Dt), L.length = m → m < fuel → Going n hv first F L W → (F = [] → place = first) →
    ∃ F' W' place' y7 y8 y9, F' = run n hv first m F ∧ gWhile g_order_T2 g_order_L2 fuel [.int n, .list (hv.map enc3), .int first, .list (W.map .int), .list (F.map .int), .list (L.map .int), .int place, x7, x8, x9]
      = .ok (.nx [.int n, .list (hv.map enc3), .int first, .list (W'.map .int), .list (F'.map .int), .list (([] : List Int).map .int), .int place', y7, y8, y9]) ∧ Going n hv first F' [] W'
  | 0, fuel, F, L, W, place, x7, x8, x9, hm, hf, g, _ => by
    have hL : L = [] := List.eq_nil_of_length_eq_zero hm
    subst hL
    exact ⟨F, W, place, x7, x8, x9, rfl, while_f (by rfl) (by omega), g⟩
  | m + 1, 0, _, _, _, _, _, _, _, _, hf, _, _ => absurd hf (Nat.not_lt_zero _)
  | m + 1, fuel + 1, F, L, W, place, x7, x8, x9, hm, hf, g, hp => by
    cases L with
    | nil => simp at hm
    | cons c L0 =>
      have hLm : ∀ q, q ∈ c :: L0 ↔ (0 ≤ q ∧ q < n) ∧ q ∉ F := fun q => by rw [g.lf, List.mem_filter, mem_pl, decide_eq_true_eq]
      have hrg : ∀ q ∈ c :: L0, 0 ≤ q ∧ q < W.length := fun q hq => by
        have := (hLm q).mp hq
        have := g.wl
        omega
      have hnx := next_ok (W := W) hrg
      obtain ⟨p1, p2, p3⟩ := np_ok (wv W) (c :: L0) c
      have hpm : np (wv W) (c :: L0) c ∈ c :: L0 := by
        rcases p1 with h | h
        · rw [h]
          exact List.mem_cons_self
        · exact h
      -- the place
      obtain ⟨p, hset, hpL, hmax⟩ : ∃ p : Int, gIfS (gTest (gOp hGt (gCB hLen (gCons (gVar 4) (gNil))) (gC (.int (0))))) (gSet 6 (gCallN 2 f_next_place (gCons (gVar 3) (gCons (gVar 5) (gNil))))) (gNext) [.int n, .list (hv.map enc3), .int first, .list (W.map .int), .list (F.map .int), .list ((c :: L0).map .int), .int place, x7, x8, x9]
          = .ok (.nx [.int n, .list (hv.map enc3), .int first, .list (W.map .int), .list (F.map .int), .list ((c :: L0).map .int), .int p, x7, x8, x9]) ∧ p ∈ c :: L0 ∧ (F ≠ [] → ∀ q, 0 ≤ q → q < n → q ∉ F → wt hv F q ≤ wt hv F p) ∧ (F = [] → p = first) ∧ p = (if F = [] then first else nxt n hv F) := by
        cases hF : F with
        | nil =>
          have e := hp hF
          subst e
          exact ⟨place, (if_f (by simp only [bnd_ok, gVar_def, gC_def, gOp_def, gUn_def, gNil_def, gCons_def, gIf_def, gTest_def, gNot_def, gAnd_def, gOr_def, gAndV_def, gOrV_def, gNotV_def, gCB_def, asB_b, hAdd_i, hSub_i, hLt_i, hLe_i, hGt_i, hGe_i, hMul_r, hMul_l, hMod_i, hDiv_s, hBand_i, hShr_i, hPow_10_18, hPow_10_27, hPow_10_28, hPow_10_29, hPow_10_30, hEq_i, hNe_i, hLen_l, hLen_t, hMin2_i, hMax2_i, hMin3_i, hInt1_b, hInt1_i, hBits_i, hListOf_l, hListOf_t, hTupOf_l, hTupOf_t, gSeqS_def, gSet_def, gRet_def, gIfS_def, gNext_def, gTup_def, gLst_def, List.getElem?_cons_zero, List.getElem?_cons_succ, List.set_cons_zero, List.set_cons_succ, List.length_cons, List.length_nil, Nat.zero_add, Nat.reduceAdd, Nat.reduceLeDiff, Nat.reduceSub, Nat.reduceMul, if_true, if_false, Bool.false_eq_true, List.replicate_succ, List.replicate_zero, List.cons_append, List.nil_append, tgN, tgT, tgCons, tgNil, Int.reducePow, Int.reduceAdd, Int.reduceSub, Int.reduceMul, decide_true, decide_false, Bool.not_true, Bool.not_false, gChain_def, hIsa_int, hIsa_intb, hIsa_list, hIsa_tuple, gDrop_def, List.map_nil, List.length_nil]; rfl)).trans rfl, (hLm _).mpr ⟨⟨f0, f1⟩, by rw [hF]; simp⟩, fun z => absurd rfl z, fun _ => rfl, by rw [if_pos rfl]⟩
        | cons u F0 =>
          have e : decide ((0 : Int) < ((u :: F0).length : Int)) = true := decide_eq_true (by rw [List.length_cons]; omega)
          refine ⟨np (wv W) (c :: L0) c, (if_t (by simp only [gTest_def, gOp_def, gCB_def, gCons_def, gNil_def, gVar_def, gC_def, List.getElem?_cons_zero, List.getElem?_cons_succ, bnd_ok, hLen_l, hGt_i, asB_b, List.length_map, e])).trans (set_ok (callN_ok (ds := [.list (W.map .int), .list ((c :: L0).map .int)]) rfl rfl hnx)), hpm, fun _ q q0 qn hq => ?_, (fun z => nomatch z), ?_⟩
          rw [← hF] at hq ⊢
          have hm1 := (hLm _).mp hpm
          rw [← g.ws q q0 qn, ← g.ws _ hm1.1.1 hm1.1.2]
          · exact p3 q ((hLm q).mpr ⟨⟨q0, qn⟩, hq⟩)
          · rw [if_neg (fun z => nomatch z), ← hF]
            unfold nxt
            have hlf : lft n F = c :: L0 := g.lf.symm
            rw [hlf]
            simp only
            refine np_congr _ _ (fun q hq => ?_) ?_
            · have := (hLm q).mp hq
              exact g.ws q this.1.1 this.1.2
            · have := (hLm c).mp List.mem_cons_self
              exact g.ws c this.1.1 this.1.2
      have hpf := (hLm p).mp hpL
      have hLn : (c :: L0).Nodup := by rw [g.lf]; exact (pl_nodup n).filter _
      have hrem := rem_eq hLn p
      have hL' : (c :: L0).filter (fun q => decide (q ≠ p)) = (pl n).filter fun q => decide (q ∉ F ++ [p]) := by
        rw [g.lf, List.filter_filter]
        refine List.filter_congr fun q _ => ?_
        rw [← Bool.decide_and, decide_eq_decide, List.mem_append, List.mem_singleton]
        constructor
        · rintro ⟨h1, h2⟩ (h | h)
          · exact h2 h
          · exact h1 h
        · exact fun h => ⟨fun z => h (.inr z), fun z => h (.inl z)⟩
      have hlen : ((c :: L0).filter fun q => decide (q ≠ p)).length = m := by
        rw [← hrem, List.length_eraseIdx_of_lt (List.idxOf_lt_length_of_mem hpL), hm]
        rfl
      obtain ⟨W', y7, y8, y9, hadd, l', w'⟩ := add_loop (n := n) (p := p) (.list (hv.map enc3)) (.int first) (.list ((F ++ [p]).map .int)) (.list (((c :: L0).filter fun q => decide (q ≠ p)).map .int)) hv W x7 x8 x9 (fun t ht => by
        obtain ⟨h1, h2, h3, _⟩ := w.ok t ht
        exact ⟨h1, h2, h3⟩) g.wl
      have g' : Going n hv first (F ++ [p]) ((c :: L0).filter fun q => decide (q ≠ p)) W' := by
        refine ⟨?_, fun q hq => ?_, hL', l', fun q q0 qn => ?_, ma_snoc g.ma hmax.1, .inr ?_⟩
        · rw [List.nodup_append]
          exact ⟨g.nd, List.nodup_cons.mpr ⟨by simp, List.nodup_nil⟩, fun a ha b hb e => hpf.2 (by rw [List.mem_singleton.mp hb] at e; exact e ▸ ha)⟩
        · rcases List.mem_append.mp hq with h | h
          · exact g.rg q h
          · rw [List.mem_singleton.mp h]
            exact hpf.1
        · rw [w' q q0 qn, g.ws q q0 qn, wt_snoc hpf.2]
        · rcases g.hd with h | h
          · rw [h, hmax.2.1 h]
            rfl
          · cases F with
            | nil => cases h
            | cons u F0 => exact h
      obtain ⟨F2, W2, pl2, z7, z8, z9, hrun, ih, g2⟩ := while_ok w n10 f0 f1 m fuel (F ++ [p]) _ W' p y7 y8 y9 hlen (by omega) g' (fun z => by simp at z)
      refine ⟨F2, W2, pl2, z7, z8, z9, by rw [hrun, hmax.2.2]; rfl, ?_, g2⟩
      rw [← ih]
      have e0 : decide ((0 : Int) < ((c :: L0).length : Int)) = true := decide_eq_true (by rw [List.length_cons]; omega)
      refine while_t (by unfold g_order_T2; simp only [gTest_def, gOp_def, gCB_def, gCons_def, gNil_def, gVar_def, gC_def, List.getElem?_cons_zero, List.getElem?_cons_succ, bnd_ok, hLen_l, hGt_i, asB_b, List.length_map, e0]) ?_
      unfold g_order_L2
      refine seq_step hset ?_
      have hFl : F.length ≤ 10 := by
        have := List.Nodup.length_le_of_subset g.nd (l₂ := Sim.pl n) fun q hq => mem_pl.mpr (g.rg q hq)
        rw [pl_len] at this
        omega
      refine seq_step (gApp_l (i := 4) (ds := F.map .int) (d := .int p) rfl (by rfl) (by rw [List.length_map]; omega)) ?_
      dsimp only [List.set]
      refine seq_step (rem_ok (ns := c :: L0) (k := p) rfl (by rfl) hpL) ?_
      dsimp only [List.set]
      rw [hrem]
      have e : F.map PyData.int ++ [.int p] = (F ++ [p]).map .int := by rw [List.map_append]; rfl
      rw [e]
      exact for_ok (ds := hv.map enc3) (seqG_l (by rfl)) hadd
theorem hRep_0 {j : Int} (h0 : 0 ≤ j) (h1 : j < 100) : hRep (.list [.int 0]) (.int j) = .ok (.list ((List.replicate j.toNat (0 : Int)).map .int)) := by
  rw [hRep_l h0 h1 (by simp)]
  congr 2
  rw [List.map_replicate]
  induction j.toNat with
  | zero => rfl
  | succ k ih => rw [List.replicate_succ, List.flatten_cons, ih, List.replicate_succ]; rfl
theorem order_ok {n first : Int} {hv : List T3} (w : HOk n hv) (hl : hv.length ≤ 40) (n1 : 1 ≤ n) (n10 : n ≤ 10) (f0 : 0 ≤ first) (f1 : first < n) :
    ∃ F : List Int, f_order [.int n, .list (hv.map enc3), .int first] = .ok (.list (F.map .int)) ∧ Ord n F ∧ F = run n hv first n.toNat [] := by
  have hwv : ∀ q, 0 ≤ q → q < n → wv (List.replicate n.toNat 0) q = wt hv [] q := fun q q0 qn => by
    have e : wt hv [] q = 0 := by
      unfold wt
      clear w hl
      induction hv with
      | nil => rfl
      | cons t l ih => rw [List.map_cons, List.sum_cons, ih]; simp
    unfold wv
    rw [e, List.getD_eq_getElem?_getD, List.getElem?_replicate]
    split <;> rfl
  have g0 : Going n hv first [] (pl n) (List.replicate n.toNat 0) := ⟨List.nodup_nil, (fun q hq => nomatch hq), (List.filter_eq_self.mpr fun q _ => by simp).symm, List.length_replicate .., hwv, fun i hi => absurd hi (Nat.not_lt_zero _), .inl rfl⟩
  obtain ⟨F, W, pl', y7, y8, y9, hrun, hw, g⟩ := while_ok w n10 f0 f1 (pl n).length 100 [] (pl n) (List.replicate n.toNat 0) first .none .none .none rfl (by rw [pl_len]; omega) g0 (fun _ => rfl)
  have hall : ∀ q, q ∈ F ↔ 0 ≤ q ∧ q < n := fun q => by
    refine ⟨g.rg q, fun h => ?_⟩
    by_cases c : q ∈ F
    · exact c
    · have : q ∈ (pl n).filter fun q => decide (q ∉ F) := List.mem_filter.mpr ⟨mem_pl.mpr h, by simp [c]⟩
      rw [← g.lf] at this
      cases this
  rw [pl_len] at hrun
  refine ⟨F, fnL_rt ?_, ⟨g.nd, hall⟩, hrun⟩
  · show g_order [.int n, .list (hv.map enc3), .int first, .none, .none, .none, .none, .none, .none, .none] = _
    unfold g_order
    have c1 : gCallN 2 f_look_at_heavy (gCons (gVar 0) (gCons (gVar 1) (gNil))) [.int n, .list (hv.map enc3), .int first, .none, .none, .none, .none, .none, .none, .none] = .ok .none := callN_ok (ds := [.int n, .list (hv.map enc3)]) rfl rfl (look_ok n1 n10 w hl)
    refine seq_step (ρ' := [.int n, .list (hv.map enc3), .int first, .none, .none, .none, .none, .none, .none, .none]) (by rw [gDrop_def, c1]; rfl) ?_
    have c2 : gCallN 1 f_is_whole_orders (gCons (gVar 2) (gNil)) [.int n, .list (hv.map enc3), .int first, .none, .none, .none, .none, .none, .none, .none] = .ok (.bool true) := callN_ok (ds := [.int first]) rfl rfl rfl
    have d1 : decide (0 ≤ first) = true := decide_eq_true f0
    have d2 : decide (first < n) = true := decide_eq_true f1
    refine seq_step ((if_f (by simp only [bnd_ok, gVar_def, gC_def, gOp_def, gUn_def, gNil_def, gCons_def, gIf_def, gTest_def, gNot_def, gAnd_def, gOr_def, gAndV_def, gOrV_def, gNotV_def, gCB_def, asB_b, hAdd_i, hSub_i, hLt_i, hLe_i, hGt_i, hGe_i, hMul_r, hMul_l, hMod_i, hDiv_s, hBand_i, hShr_i, hPow_10_18, hPow_10_27, hPow_10_28, hPow_10_29, hPow_10_30, hEq_i, hNe_i, hLen_l, hLen_t, hMin2_i, hMax2_i, hMin3_i, hInt1_b, hInt1_i, hBits_i, hListOf_l, hListOf_t, hTupOf_l, hTupOf_t, gSeqS_def, gSet_def, gRet_def, gIfS_def, gNext_def, gTup_def, gLst_def, List.getElem?_cons_zero, List.getElem?_cons_succ, List.set_cons_zero, List.set_cons_succ, List.length_cons, List.length_nil, Nat.zero_add, Nat.reduceAdd, Nat.reduceLeDiff, Nat.reduceSub, Nat.reduceMul, if_true, if_false, Bool.false_eq_true, List.replicate_succ, List.replicate_zero, List.cons_append, List.nil_append, tgN, tgT, tgCons, tgNil, Int.reducePow, Int.reduceAdd, Int.reduceSub, Int.reduceMul, decide_true, decide_false, Bool.not_true, Bool.not_false, gChain_def, hIsa_int, hIsa_intb, hIsa_list, hIsa_tuple, gDrop_def, c2, d1, d2])).trans rfl) ?_
    refine seq_step (set_ok (d := .list ((List.replicate n.toNat (0 : Int)).map .int)) ?_) ?_
    · rw [gOp_def]
      exact hRep_0 (by omega) (by omega)
    dsimp only [List.set]
    refine seq_step (set_ok (d := .list []) (by rfl)) ?_
    dsimp only [List.set]
    refine seq_step (set_ok (d := .list ((pl n).map .int)) ?_) ?_
    · rw [lsI_ok (ds := (pl n).map .int) (by rw [rng1_ok (j := n) (by rfl) (by omega) (by omega), rangeD_pl]) (by rw [List.length_map, pl_len]; omega)]
    dsimp only [List.set]
    refine seq_step (set_ok (d := .int first) (by rfl)) ?_
    dsimp only [List.set]
    refine seq_step hw ?_
    refine ret_ok ?_
    unfold gPurV
    rw [gPurN_def]
    show (if pureIn (.list (F.map .int)) then O.ok (PyData.list (F.map .int)) else .bad) = _
    simp only [pureIn, pureA_ints, if_true]
end K49
end T_K49B

section T_K49C
set_option linter.all false
set_option maxRecDepth 100000
set_option maxHeartbeats 4000000
/-! K49C: bands, heads. -/
namespace K49
open PySem Sim FamA Heav

def encP (p : Int × Int) : Dt := .tuple [.int p.1, .int p.2]
def bandAt (hv : List T3) (F : List Int) (k : Nat) : Int × Int := (lo hv F k, lo hv F k + (hv.getD k (0, 0, 0)).2.2)
def earl (hv : List T3) (F : List Int) (k : Nat) : Nat := (item F (hv.getD k (0, 0, 0))).1
def late (hv : List T3) (F : List Int) (k : Nat) : Nat := (item F (hv.getD k (0, 0, 0))).2.1
def Dn (hv : List T3) (F : List Int) (i l m k : Nat) : Prop := late hv F k < i ∨ (late hv F k = i ∧ (earl hv F k < l ∨ (earl hv F k = l ∧ k < m)))
structure Bn (hv : List T3) (F : List Int) (i l m : Nat) (B : List (Int × Int)) : Prop where
  len : B.length = hv.length
  ok : ∀ k, k < hv.length → Dn hv F i l m k → B[k]? = some (bandAt hv F k)
theorem two_perm {a b c d : Int} (hab : a ≠ b) (hcd : c ≠ d) : isort [a, b] = isort [c, d] ↔ (a = c ∧ b = d) ∨ (a = d ∧ b = c) := by
  constructor
  · intro h
    have hp : [a, b].Perm [c, d] := (isort_perm [a, b]).symm.trans (h ▸ isort_perm [c, d])
    have ha : a ∈ [c, d] := hp.subset List.mem_cons_self
    have hb : b ∈ [c, d] := hp.subset (List.mem_cons_of_mem _ List.mem_cons_self)
    simp only [List.mem_cons, List.not_mem_nil, or_false] at ha hb
    omega
  · rintro (⟨rfl, rfl⟩ | ⟨rfl, rfl⟩)
    · rfl
    · exact isort_eq (List.Perm.swap _ _ _)
theorem at_iff {n : Int} {F : List Int} (o : Ord n F) {a : Int} (ha : a ∈ F) {i : Nat} (hi : i < F.length) : a = F[i] ↔ F.idxOf a = i := by
  constructor
  · intro e
    rw [e]
    exact idx_of_get o.nd hi
  · intro e
    subst e
    exact (get_idx (idx_get ha)).symm
theorem pair_test {n : Int} {hv : List T3} {F : List Int} (o : Ord n F) (w : Web n hv) {t : T3} (ht : t ∈ hv) {l i : Nat} (hl : l < i) (hi : i < F.length) : decide (isort [t.1, t.2.1] = isort [F[l], F[i]]) = pairB l i (item F t) := by
  obtain ⟨ha, hb, hne, h4⟩ := o.ends w ht
  have hw := w.ok t ht
  have hli : F[l] ≠ F[i] := List.pairwise_iff_getElem.mp o.nd l i (by omega) hi hl
  unfold pairB item
  rw [Bool.eq_iff_iff, decide_eq_true_eq, two_perm (by omega) hli, at_iff o ha (by omega), at_iff o hb hi, at_iff o ha hi, at_iff o hb (by omega), Bool.and_eq_true, decide_eq_true_eq, decide_eq_true_eq]
  show _ ↔ min (F.idxOf t.1) (F.idxOf t.2.1) = l ∧ max (F.idxOf t.1) (F.idxOf t.2.1) = i
  omega
section
variable {n : Int} {hv : List T3} {F : List Int}
theorem tie_loop (o : Ord n F) (w : Web n hv) (hl40 : hv.length ≤ 1000) {l i : Nat} (hl : l < i) (hi : i < F.length) {B : List (Int × Int)} (hB : Bn hv F i l 0 B) (x7 x8 x9 x10 : Dt) :
    ∃ B' y7 y8 y9 y10, g_bands_L2 [.int n, .list (hv.map enc3), .list (F.map .int), .list (B.map encP), .int (0 + (i : Int)), .int (Rw hv F l i), .int F[l], x7, x8, x9, x10]
      = .ok (.nx [.int n, .list (hv.map enc3), .list (F.map .int), .list (B'.map encP), .int (0 + (i : Int)), .int (Rw hv F (l + 1) i), .int F[l], y7, y8, y9, y10]) ∧ Bn hv F i (l + 1) 0 B' := by
  obtain ⟨ρ', hf, B', y7, y8, y9, y10, rfl, hB'⟩ := forE_ix (fun (q : T3 × Nat) => PyData.tuple [.int (q.2 : Nat), enc3 q.1]) (h := tgT (tgCons (tgN 7) (tgCons (tgT (tgCons (tgN 8) (tgCons (tgN 9) (tgCons (tgN 10) (tgNil))))) (tgNil)))) (b := g_bands_L1) hv.zipIdx
    (fun m ρ => ∃ (B : List (Int × Int)) (y7 y8 y9 y10 : Dt), ρ = [.int n, .list (hv.map enc3), .list (F.map .int), .list (B.map encP), .int (0 + (i : Int)), .int (Rw hv F l i + sw ((hv.map (item F)).take m) (pairB l i)), .int F[l], y7, y8, y9, y10] ∧ Bn hv F i l m B)
    (ρ := [.int n, .list (hv.map enc3), .list (F.map .int), .list (B.map encP), .int (0 + (i : Int)), .int (Rw hv F l i), .int F[l], x7, x8, x9, x10]) ⟨B, x7, x8, x9, x10, by rw [List.take_zero, sw_nil, Int.add_zero], hB⟩ (by
      rintro m ρ hm ⟨B, y7, y8, y9, y10, rfl, hB⟩
      rw [List.length_zipIdx] at hm
      rw [List.getElem_zipIdx]
      have hsw : sw ((hv.map (item F)).take (m + 1)) (pairB l i) = sw ((hv.map (item F)).take m) (pairB l i) + (if pairB l i (item F hv[m]) then hv[m].2.2 else 0) := by
        rw [take_succ_map _ _ hm, sw_snoc]
        rfl
      have hgm : hv.getD m (0, 0, 0) = hv[m] := by rw [List.getD_eq_getElem?_getD, List.getElem?_eq_getElem hm]; rfl
      have hpt := pair_test o w (List.getElem_mem hm) hl hi
      have hlo := lo_eq (F := F) hm
      have hband : bandAt hv F m = (lo hv F m, lo hv F m + hv[m].2.2) := by unfold bandAt; rw [hgm]
      have hee : earl hv F m = (item F hv[m]).1 := by unfold earl; rw [hgm]
      have hll : late hv F m = (item F hv[m]).2.1 := by unfold late; rw [hgm]
      rw [hsw]
      generalize hgl : Rw hv F l i + sw ((hv.map (item F)).take m) (pairB l i) = low at *
      have hrow : hIx (.list (F.map .int)) (.int (0 + (i : Int))) = .ok (.int F[i]) := by
        have e := hIx_ints (xs := F) (i := 0 + (i : Int)) (by omega) (by omega)
        rw [e]
        congr 3
        omega
      have htest : gTest (gOp hEq (gCB (one hSorted) (gCons (gLst (gCons (gVar 8) (gCons (gVar 9) (gNil)))) (gNil))) (gCB (one hSorted) (gCons (gLst (gCons (gVar 6) (gCons (gOp hIx (gVar 2) (gVar 4)) (gNil)))) (gNil)))) [.int n, .list (hv.map enc3), .list (F.map .int), .list (B.map encP), .int (0 + (i : Int)), .int low, .int F[l], .int (0 + m : Nat), .int hv[m].1, .int hv[m].2.1, .int hv[m].2.2] = .ok (pairB l i (item F hv[m])) := by
        have e1 : gCB (one hSorted) (gCons (gLst (gCons (gVar 8) (gCons (gVar 9) (gNil)))) (gNil)) [.int n, .list (hv.map enc3), .list (F.map .int), .list (B.map encP), .int (0 + (i : Int)), .int low, .int F[l], .int (0 + m : Nat), .int hv[m].1, .int hv[m].2.1, .int hv[m].2.2] = .ok (.list ((isort [hv[m].1, hv[m].2.1]).map .int)) := by
          rw [gCB_def, gCons_def]
          show one hSorted [.list ([hv[m].1, hv[m].2.1].map .int)] = _
          rw [hSorted_ints]
        have e2 : gCB (one hSorted) (gCons (gLst (gCons (gVar 6) (gCons (gOp hIx (gVar 2) (gVar 4)) (gNil)))) (gNil)) [.int n, .list (hv.map enc3), .list (F.map .int), .list (B.map encP), .int (0 + (i : Int)), .int low, .int F[l], .int (0 + m : Nat), .int hv[m].1, .int hv[m].2.1, .int hv[m].2.2] = .ok (.list ((isort [F[l], F[i]]).map .int)) := by
          have e3 : gOp hIx (gVar 2) (gVar 4) [.int n, .list (hv.map enc3), .list (F.map .int), .list (B.map encP), .int (0 + (i : Int)), .int low, .int F[l], .int (0 + m : Nat), .int hv[m].1, .int hv[m].2.1, .int hv[m].2.2] = .ok (.int F[i]) := by
            rw [gOp_def]
            exact hrow
          rw [gCB_def, gCons_def, gLst_def, gCons_def, gCons_def, e3]
          show one hSorted [.list ([F[l], F[i]].map .int)] = _
          rw [hSorted_ints]
        rw [gTest_def, gOp_def, e1, e2, bnd_ok, bnd_ok, hEq_ints, bnd_ok, hpt]
        rfl
      refine ⟨[.int n, .list (hv.map enc3), .list (F.map .int), .list (B.map encP), .int (0 + (i : Int)), .int low, .int F[l], .int (0 + m : Nat), .int hv[m].1, .int hv[m].2.1, .int hv[m].2.2], ?_⟩
      unfold g_bands_L1
      cases hp : pairB l i (item F hv[m]) with
      | false =>
        rw [hp] at htest
        refine ⟨_, rfl, .inl ((if_f htest).trans rfl), B, _, _, _, _, by rw [if_neg Bool.false_ne_true, Int.add_zero, hgl], hB.len, fun k hk hd => hB.ok k hk ?_⟩
        unfold Dn at *
        rcases hd with h | ⟨h1, h2 | ⟨h2, h3⟩⟩
        · exact .inl h
        · exact .inr ⟨h1, .inl h2⟩
        · refine .inr ⟨h1, .inr ⟨h2, ?_⟩⟩
          by_cases c : k = m
          · subst c
            rw [hll] at h1
            rw [hee] at h2
            unfold pairB at hp
            rw [h1, h2] at hp
            simp at hp
          · omega
      | true =>
        rw [hp] at htest
        have hp' := hp
        unfold pairB at hp'
        rw [Bool.and_eq_true, decide_eq_true_eq, decide_eq_true_eq] at hp'
        rw [hp'.1, hp'.2, hgl] at hlo
        refine ⟨[.int n, .list (hv.map enc3), .list (F.map .int), .list ((B.set m (low, low + hv[m].2.2)).map encP), .int (0 + (i : Int)), .int (low + hv[m].2.2), .int F[l], .int (0 + m : Nat), .int hv[m].1, .int hv[m].2.1, .int hv[m].2.2], rfl, .inl ((if_t htest).trans ?_), B.set m (low, low + hv[m].2.2), _, _, _, _, by rw [if_pos rfl, ← hgl, Int.add_assoc], by rw [List.length_set, hB.len], fun k hk hd => ?_⟩
        · refine seq_step (setI_ok (ds := B.map encP) (d := encP (low, low + hv[m].2.2)) (j := ((0 + m : Nat) : Int)) (by rfl) rfl rfl (by omega) (by rw [List.length_map, hB.len]; omega)) ?_
          dsimp only [List.set]
          rw [show (((0 + m : Nat) : Int)).toNat = m by omega, ← List.map_set]
          unfold gAug
          rfl
        · rw [List.getElem?_set]
          by_cases c : m = k
          · subst c
            rw [if_pos rfl, if_pos (by rw [hB.len]; exact hm), hband, hlo]
          · rw [if_neg c]
            refine hB.ok k hk ?_
            unfold Dn at *
            rcases hd with h | ⟨h1, h2 | ⟨h2, h3⟩⟩
            · exact .inl h
            · exact .inr ⟨h1, .inl h2⟩
            · exact .inr ⟨h1, .inr ⟨h2, by omega⟩⟩)
  rw [List.length_zipIdx] at hB'
  rw [List.length_zipIdx, List.take_of_length_le (by rw [List.length_map]; exact Nat.le_refl _), ← Rw_succ o w hl] at hf
  refine ⟨B', y7, y8, y9, y10, ?_, hB'.len, fun k hk hd => hB'.ok k hk ?_⟩
  · unfold g_bands_L2
    refine for_ok (ds := hv.zipIdx.map fun (q : T3 × Nat) => PyData.tuple [.int (q.2 : Nat), enc3 q.1]) ?_ hf
    refine (enum_ok (es := hv.map enc3) (by rfl)).trans ?_
    rw [enumD_map]
  · unfold Dn at *
    rcases hd with h | ⟨h1, h2 | ⟨h2, h3⟩⟩
    · exact .inl h
    · refine .inr ⟨h1, ?_⟩
      by_cases c : earl hv F k < l
      · exact .inl c
      · exact .inr ⟨by omega, hk⟩
    · exact absurd h3 (Nat.not_lt_zero _)
theorem bands_ok (o : Ord n F) (h : HOk n hv) (hl40 : hv.length ≤ 40) (n1 : 1 ≤ n) (n10 : n ≤ 10) (hF : F.length = n.toNat) :
    f_bands [.int n, .list (hv.map enc3), .list (F.map .int)] = .ok (.list (((List.range hv.length).map (bandAt hv F)).map encP)) := by
  have w := h.web
  obtain ⟨ρ', hf, B, y4, y5, y6, y7, y8, y9, y10, rfl, hB⟩ := forE_ix (fun (j : Nat) => PyData.int (0 + (j : Int))) (h := tgN 4) (b := g_bands_L3) (List.range F.length)
    (fun i ρ => ∃ (B : List (Int × Int)) (y4 y5 y6 y7 y8 y9 y10 : Dt), ρ = [.int n, .list (hv.map enc3), .list (F.map .int), .list (B.map encP), y4, y5, y6, y7, y8, y9, y10] ∧ Bn hv F i 0 0 B)
    (ρ := [.int n, .list (hv.map enc3), .list (F.map .int), .list ((List.replicate hv.length (0, 0)).map encP), .none, .none, .none, .none, .none, .none, .none]) ⟨_, _, _, _, _, _, _, _, rfl, List.length_replicate .., fun k hk hd => by unfold Dn at hd; omega⟩ (by
      rintro i ρ hi ⟨B, y4, y5, y6, y7, y8, y9, y10, rfl, hB⟩
      rw [List.length_range] at hi
      rw [List.getElem_range]
      obtain ⟨ρ', hf, B', z6, z7, z8, z9, z10, rfl, hB'⟩ := forE_ix PyData.int (h := tgN 6) (b := g_bands_L2) (F.take i)
        (fun l ρ => ∃ (B : List (Int × Int)) (y6 y7 y8 y9 y10 : Dt), ρ = [.int n, .list (hv.map enc3), .list (F.map .int), .list (B.map encP), .int (0 + (i : Int)), .int (Rw hv F l i), y6, y7, y8, y9, y10] ∧ Bn hv F i l 0 B)
        (ρ := [.int n, .list (hv.map enc3), .list (F.map .int), .list (B.map encP), .int (0 + (i : Int)), .int 0, y6, y7, y8, y9, y10]) ⟨B, y6, y7, y8, y9, y10, by rw [Rw_zero w], hB⟩ (by
          rintro l ρ hl ⟨B, y6, y7, y8, y9, y10, rfl, hB⟩
          rw [List.length_take] at hl
          rw [List.getElem_take]
          obtain ⟨B', z7, z8, z9, z10, hb, hB'⟩ := tie_loop o w (by omega) (show l < i by omega) hi hB y7 y8 y9 y10
          exact ⟨_, _, rfl, .inl hb, B', _, _, _, _, _, rfl, hB'⟩)
      rw [List.length_take, Nat.min_eq_left (by omega)] at hB'
      refine ⟨[.int n, .list (hv.map enc3), .list (F.map .int), .list (B.map encP), .int (0 + (i : Int)), y5, y6, y7, y8, y9, y10], [.int n, .list (hv.map enc3), .list (F.map .int), .list (B'.map encP), .int (0 + (i : Int)), .int (Rw hv F (F.take i).length i), z6, z7, z8, z9, z10], rfl, .inl ?_, B', _, _, _, _, _, _, _, rfl, hB'.len, fun k hk hd => hB'.ok k hk ?_⟩
      · unfold g_bands_L3
        refine seq_step (set_ok (d := .int 0) rfl) ?_
        dsimp only [List.set]
        refine for_ok (ds := (F.take i).map .int) (seqG_l ?_) hf
        have s1 : hSl (.list (F.map .int)) none (some (0 + (i : Int))) = .ok (.list ((F.take (0 + (i : Int)).toNat).map .int)) := hSl_to' PyData.int F (by omega)
        rw [show (0 + (i : Int)).toNat = i by omega] at s1
        simp only [gSl_def, gNoPart_def, gPart_def, gVar_def, List.getElem?_cons_zero, List.getElem?_cons_succ, bnd_ok, s1]
      · have hlt : earl hv F k < late hv F k := (items_ok o w).2 _ (List.mem_map.mpr ⟨hv.getD k (0, 0, 0), by rw [List.getD_eq_getElem?_getD, List.getElem?_eq_getElem hk]; exact List.getElem_mem hk, rfl⟩)
        unfold Dn at *
        omega)
  rw [List.length_range] at hB
  have hBe : B = (List.range hv.length).map (bandAt hv F) := by
    apply List.ext_getElem?
    intro k
    by_cases c : k < hv.length
    · rw [List.getElem?_map, List.getElem?_range c]
      refine hB.ok k c (.inl ?_)
      have hm : hv.getD k (0, 0, 0) ∈ hv := by rw [List.getD_eq_getElem?_getD, List.getElem?_eq_getElem c]; exact List.getElem_mem c
      obtain ⟨ha, hb, _, _⟩ := o.ends w hm
      have := idx_get ha
      have := idx_get hb
      show max _ _ < _
      omega
    · rw [List.getElem?_eq_none (by rw [hB.len]; omega), List.getElem?_eq_none (by rw [List.length_map, List.length_range]; omega)]
  subst hBe
  refine fnL_rt ?_
  show g_bands [.int n, .list (hv.map enc3), .list (F.map .int), .none, .none, .none, .none, .none, .none, .none, .none] = _
  unfold g_bands
  have c1 : gCallN 2 f_look_at_heavy (gCons (gVar 0) (gCons (gVar 1) (gNil))) [.int n, .list (hv.map enc3), .list (F.map .int), .none, .none, .none, .none, .none, .none, .none, .none] = .ok .none := callN_ok (ds := [.int n, .list (hv.map enc3)]) rfl rfl (look_ok n1 n10 h hl40)
  refine seq_step (ρ' := [.int n, .list (hv.map enc3), .list (F.map .int), .none, .none, .none, .none, .none, .none, .none, .none]) (by rw [gDrop_def, c1]; rfl) ?_
  refine seq_step (set_ok (d := .list ((List.replicate hv.length (0, 0)).map encP)) ?_) ?_
  · have hr := hRep_l (xs := [encP (0, 0)]) (k := (hv.length : Int)) (by omega) (by omega) (by simp)
    have e1 : gLst (gCons (gTup (gCons (gC (.int (0))) (gCons (gC (.int (0))) (gNil)))) (gNil)) [.int n, .list (hv.map enc3), .list (F.map .int), .none, .none, .none, .none, .none, .none, .none, .none] = .ok (.list [encP (0, 0)]) := rfl
    have e2 : gCB hLen (gCons (gVar 1) (gNil)) [.int n, .list (hv.map enc3), .list (F.map .int), .none, .none, .none, .none, .none, .none, .none, .none] = .ok (.int (hv.length : Int)) := by
      simp only [bnd_ok, gVar_def, gC_def, gOp_def, gUn_def, gNil_def, gCons_def, gIf_def, gTest_def, gNot_def, gAnd_def, gOr_def, gAndV_def, gOrV_def, gNotV_def, gCB_def, asB_b, hAdd_i, hSub_i, hLt_i, hLe_i, hGt_i, hGe_i, hMul_r, hMul_l, hMod_i, hDiv_s, hBand_i, hShr_i, hPow_10_18, hPow_10_27, hPow_10_28, hPow_10_29, hPow_10_30, hEq_i, hNe_i, hLen_l, hLen_t, hMin2_i, hMax2_i, hMin3_i, hInt1_b, hInt1_i, hBits_i, hListOf_l, hListOf_t, hTupOf_l, hTupOf_t, gSeqS_def, gSet_def, gRet_def, gIfS_def, gNext_def, gTup_def, gLst_def, List.getElem?_cons_zero, List.getElem?_cons_succ, List.set_cons_zero, List.set_cons_succ, List.length_cons, List.length_nil, Nat.zero_add, Nat.reduceAdd, Nat.reduceLeDiff, Nat.reduceSub, Nat.reduceMul, if_true, if_false, Bool.false_eq_true, List.replicate_succ, List.replicate_zero, List.cons_append, List.nil_append, tgN, tgT, tgCons, tgNil, Int.reducePow, Int.reduceAdd, Int.reduceSub, Int.reduceMul, decide_true, decide_false, Bool.not_true, Bool.not_false, gChain_def, hIsa_int, hIsa_intb, hIsa_list, hIsa_tuple, gDrop_def, List.length_map]
    have hfl : ∀ k : Nat, (List.replicate k [encP (0, 0)]).flatten = (List.replicate k ((0, 0) : Int × Int)).map encP := fun k => by
      induction k with
      | zero => rfl
      | succ k ih => rw [List.replicate_succ, List.flatten_cons, ih, List.replicate_succ]; rfl
    rw [gOp_def, e1, e2, bnd_ok, bnd_ok, hr, Int.toNat_natCast, hfl]
  dsimp only [List.set]
  refine seq_step (for_ok (ds := (List.range F.length).map fun (j : Nat) => PyData.int (0 + (j : Int))) ?_ hf) (ret_ok rfl)
  rw [rng1_ok (j := (F.length : Int)) (by simp only [bnd_ok, gVar_def, gC_def, gOp_def, gUn_def, gNil_def, gCons_def, gIf_def, gTest_def, gNot_def, gAnd_def, gOr_def, gAndV_def, gOrV_def, gNotV_def, gCB_def, asB_b, hAdd_i, hSub_i, hLt_i, hLe_i, hGt_i, hGe_i, hMul_r, hMul_l, hMod_i, hDiv_s, hBand_i, hShr_i, hPow_10_18, hPow_10_27, hPow_10_28, hPow_10_29, hPow_10_30, hEq_i, hNe_i, hLen_l, hLen_t, hMin2_i, hMax2_i, hMin3_i, hInt1_b, hInt1_i, hBits_i, hListOf_l, hListOf_t, hTupOf_l, hTupOf_t, gSeqS_def, gSet_def, gRet_def, gIfS_def, gNext_def, gTup_def, gLst_def, List.getElem?_cons_zero, List.getElem?_cons_succ, List.set_cons_zero, List.set_cons_succ, List.length_cons, List.length_nil, Nat.zero_add, Nat.reduceAdd, Nat.reduceLeDiff, Nat.reduceSub, Nat.reduceMul, if_true, if_false, Bool.false_eq_true, List.replicate_succ, List.replicate_zero, List.cons_append, List.nil_append, tgN, tgT, tgCons, tgNil, Int.reducePow, Int.reduceAdd, Int.reduceSub, Int.reduceMul, decide_true, decide_false, Bool.not_true, Bool.not_false, gChain_def, hIsa_int, hIsa_intb, hIsa_list, hIsa_tuple, gDrop_def, List.length_map]) (by omega) (by omega)]
  unfold rangeD
  rw [Int.sub_zero, Int.toNat_natCast]
/-! heads -/
def hd (N : Int) (p : Int × Int) : Int := if (if N < p.2 then N else p.2) - p.1 > 0 then (if N < p.2 then N else p.2) - p.1 else 0
theorem heads_fn (B : List (Int × Int)) (N : Int) (hl : B.length ≤ 1000) : f_heads [.list (B.map encP), .int N] = .ok (.list ((B.map (hd N)).map .int)) := by
  refine fnL_rt ?_
  show g_heads [.list (B.map encP), .int N, .none, .none] = _
  unfold g_heads
  have h := gLc_map encP (fun _ => true) (fun p => PyData.int (hd N p)) (gi := gSeq (gVar 0)) (h := tgT (tgCons (tgN 2) (tgCons (tgN 3) (tgNil)))) (gt := gYes) (ge := gCB hMax2 (gCons (gC (.int (0))) (gCons (gOp hSub (gCB hMin2 (gCons (gVar 3) (gCons (gVar 1) (gNil)))) (gVar 2)) (gNil))))
    (ρ := [.list (B.map encP), .int N, .none, .none]) (xs := B) rfl (by omega) (fun p _ => ⟨[.list (B.map encP), .int N, .int p.1, .int p.2], rfl, rfl, fun _ => by simp only [bnd_ok, gVar_def, gC_def, gOp_def, gUn_def, gNil_def, gCons_def, gIf_def, gTest_def, gNot_def, gAnd_def, gOr_def, gAndV_def, gOrV_def, gNotV_def, gCB_def, asB_b, hAdd_i, hSub_i, hLt_i, hLe_i, hGt_i, hGe_i, hMul_r, hMul_l, hMod_i, hDiv_s, hBand_i, hShr_i, hPow_10_18, hPow_10_27, hPow_10_28, hPow_10_29, hPow_10_30, hEq_i, hNe_i, hLen_l, hLen_t, hMin2_i, hMax2_i, hMin3_i, hInt1_b, hInt1_i, hBits_i, hListOf_l, hListOf_t, hTupOf_l, hTupOf_t, gSeqS_def, gSet_def, gRet_def, gIfS_def, gNext_def, gTup_def, gLst_def, List.getElem?_cons_zero, List.getElem?_cons_succ, List.set_cons_zero, List.set_cons_succ, List.length_cons, List.length_nil, Nat.zero_add, Nat.reduceAdd, Nat.reduceLeDiff, Nat.reduceSub, Nat.reduceMul, if_true, if_false, Bool.false_eq_true, List.replicate_succ, List.replicate_zero, List.cons_append, List.nil_append, tgN, tgT, tgCons, tgNil, Int.reducePow, Int.reduceAdd, Int.reduceSub, Int.reduceMul, decide_true, decide_false, Bool.not_true, Bool.not_false, gChain_def, hIsa_int, hIsa_intb, hIsa_list, hIsa_tuple, gDrop_def]; rfl⟩)
  refine ret_ok ?_
  rw [h, List.filter_eq_self.mpr (fun _ _ => rfl), List.map_map]
  rfl
theorem heads_ok (w : Web n hv) (N : Int) : Heads N hv F (((List.range hv.length).map (bandAt hv F)).map (hd N)) := by
  refine ⟨by rw [List.length_map, List.length_map, List.length_range], fun k hk h2 => ?_⟩
  rw [List.getElem_map, List.getElem_map, List.getElem_range]
  have := (w.ok _ (List.getElem_mem hk)).2.2.2
  unfold hd bandAt
  rw [show hv.getD k (0, 0, 0) = hv[k] by rw [List.getD_eq_getElem?_getD, List.getElem?_eq_getElem hk]; rfl]
  simp only
  generalize lo hv F k = z
  generalize hv[k].2.2 = y at *
  split <;> split <;> omega
end
end K49
end T_K49C

section T_K49D
set_option linter.all false
set_option maxRecDepth 100000
set_option maxHeartbeats 4000000
/-! K49D: what the law reckons: orders, bands, heads, mixed rows. -/
namespace K49
open PySem Sim FamA Heav

/-! the best place -/
def pick (w : Int → Int) (F : List Int) (p : Int) : Option Int → Option Int
  | none => if p ∈ F then none else some p
  | some q => if p ∈ F then some q else if w q < w p then some p else some q
def bst (w : Int → Int) (F : List Int) : List Int → Option Int → Option Int
  | [], b => b
  | p :: M, b => bst w F M (pick w F p b)
theorem bst_some (w : Int → Int) (F : List Int) : ∀ (M : List Int) (b : Int), bst w F M (some b) = some (np w (M.filter fun q => decide (q ∉ F)) b)
  | [], b => rfl
  | p :: M, b => by
    unfold bst
    by_cases c : p ∈ F
    · rw [show pick w F p (some b) = some b from if_pos c, List.filter_cons_of_neg (by simp [c])]
      exact bst_some w F M b
    · rw [show pick w F p (some b) = if w b < w p then some p else some b from if_neg c, List.filter_cons_of_pos (by simp [c])]
      show bst w F M (if w b < w p then some p else some b) = some (np w (M.filter _) (if w b < w p then p else b))
      by_cases d : w b < w p
      · rw [if_pos d, if_pos d]
        exact bst_some w F M p
      · rw [if_neg d, if_neg d]
        exact bst_some w F M b
theorem bst_none (w : Int → Int) (F : List Int) : ∀ (M : List Int), bst w F M none = match M.filter fun q => decide (q ∉ F) with
    | [] => none
    | c :: L => some (np w (c :: L) c)
  | [] => rfl
  | p :: M => by
    unfold bst
    by_cases c : p ∈ F
    · rw [show pick w F p none = none from if_pos c, List.filter_cons_of_neg (by simp [c])]
      exact bst_none w F M
    · rw [show pick w F p none = some p from if_neg c, List.filter_cons_of_pos (by simp [c])]
      show bst w F M (some p) = some (np w (M.filter _) (if w p < w p then p else p))
      rw [if_neg (by omega), bst_some]
def bestD (w : Int → Int) : Option Int → Dt
  | none => .none
  | some q => .tuple [.int (w q), .int q]
section
variable {n : Int} {hv : List T3}
theorem ahead_ok (w : HOk n hv) (hl : hv.length ≤ 1000) (F : List Int) (p : Int) (d0 d2 d4 d6 d7 d8 d9 : Dt) :
    gCB hSum (gCons (gLc (gSeq (gVar 1)) (tgT (tgCons (tgN 7) (tgCons (tgN 8) (tgCons (tgN 9) (tgNil))))) (gOr (gAnd (gTest (gOp hEq (gVar 5) (gVar 7))) (gTest (gOp hIn (gVar 8) (gVar 3)))) (gAnd (gTest (gOp hEq (gVar 5) (gVar 8))) (gTest (gOp hIn (gVar 7) (gVar 3))))) (gVar 9)) (gNil)) [d0, .list (hv.map enc3), d2, .list (F.map .int), d4, .int p, d6, d7, d8, d9] = .ok (.int (wt hv F p)) := by
  have h := gLc_map enc3 (fun t => (p == t.1 && decide (t.2.1 ∈ F)) || (p == t.2.1 && decide (t.1 ∈ F))) (fun t => PyData.int t.2.2) (gi := gSeq (gVar 1)) (h := tgT (tgCons (tgN 7) (tgCons (tgN 8) (tgCons (tgN 9) (tgNil))))) (gt := gOr (gAnd (gTest (gOp hEq (gVar 5) (gVar 7))) (gTest (gOp hIn (gVar 8) (gVar 3)))) (gAnd (gTest (gOp hEq (gVar 5) (gVar 8))) (gTest (gOp hIn (gVar 7) (gVar 3))))) (ge := gVar 9)
    (ρ := [d0, .list (hv.map enc3), d2, .list (F.map .int), d4, .int p, d6, d7, d8, d9]) (xs := hv) (by rfl) (by omega) (fun t _ => ⟨[d0, .list (hv.map enc3), d2, .list (F.map .int), d4, .int p, d6, .int t.1, .int t.2.1, .int t.2.2], rfl, by
      have e1 := hIn_ints t.1 F
      have e2 := hIn_ints t.2.1 F
      simp only [bnd_ok, gVar_def, gC_def, gOp_def, gUn_def, gNil_def, gCons_def, gIf_def, gTest_def, gNot_def, gAnd_def, gOr_def, gAndV_def, gOrV_def, gNotV_def, gCB_def, asB_b, hAdd_i, hSub_i, hLt_i, hLe_i, hGt_i, hGe_i, hMul_r, hMul_l, hMod_i, hDiv_s, hBand_i, hShr_i, hPow_10_18, hPow_10_27, hPow_10_28, hPow_10_29, hPow_10_30, hEq_i, hNe_i, hLen_l, hLen_t, hMin2_i, hMax2_i, hMin3_i, hInt1_b, hInt1_i, hBits_i, hListOf_l, hListOf_t, hTupOf_l, hTupOf_t, gSeqS_def, gSet_def, gRet_def, gIfS_def, gNext_def, gTup_def, gLst_def, List.getElem?_cons_zero, List.getElem?_cons_succ, List.set_cons_zero, List.set_cons_succ, List.length_cons, List.length_nil, Nat.zero_add, Nat.reduceAdd, Nat.reduceLeDiff, Nat.reduceSub, Nat.reduceMul, if_true, if_false, Bool.false_eq_true, List.replicate_succ, List.replicate_zero, List.cons_append, List.nil_append, tgN, tgT, tgCons, tgNil, Int.reducePow, Int.reduceAdd, Int.reduceSub, Int.reduceMul, decide_true, decide_false, Bool.not_true, Bool.not_false, gChain_def, hIsa_int, hIsa_intb, hIsa_list, hIsa_tuple, gDrop_def, e1, e2]
      cases (p == t.1) <;> cases decide (t.2.1 ∈ F) <;> cases (p == t.2.1) <;> cases decide (t.1 ∈ F) <;> rfl, fun _ => rfl⟩)
  rw [gCB_def, gCons_def, h, bnd_ok, gNil_def, bnd_ok, bnd_ok]
  rw [show ((hv.filter fun t => (p == t.1 && decide (t.2.1 ∈ F)) || (p == t.2.1 && decide (t.1 ∈ F))).map fun t => PyData.int t.2.2) = (((hv.filter fun t => (p == t.1 && decide (t.2.1 ∈ F)) || (p == t.2.1 && decide (t.1 ∈ F))).map fun t : T3 => t.2.2).map .int) by rw [List.map_map]; rfl, hSum_ints]
  congr 2
  clear h hl
  have hw := w.ok
  clear w
  induction hv with
  | nil => rfl
  | cons t hv ih =>
    have ih := ih fun u hu => hw u (List.mem_cons_of_mem _ hu)
    obtain ⟨_, hab, _⟩ := hw t List.mem_cons_self
    have e : wt (t :: hv) F p = ((if t.1 ∈ F ∧ t.2.1 = p then t.2.2 else 0) + (if t.2.1 ∈ F ∧ t.1 = p then t.2.2 else 0)) + wt hv F p := rfl
    rw [e, ← ih]
    by_cases a1 : t.1 = p <;> by_cases b1 : t.2.1 = p <;> by_cases a2 : t.1 ∈ F <;> by_cases b2 : t.2.1 ∈ F <;> (try omega) <;> (have a1' : (p == t.1) = decide (t.1 = p) := by { rw [Bool.eq_iff_iff, beq_iff_eq, decide_eq_true_eq]; exact eq_comm }) <;> (have b1' : (p == t.2.1) = decide (t.2.1 = p) := by { rw [Bool.eq_iff_iff, beq_iff_eq, decide_eq_true_eq]; exact eq_comm }) <;> simp [List.filter_cons, a1', b1', a1, b1, a2, b2] <;> omega
theorem best_loop (w : HOk n hv) (hl : hv.length ≤ 1000) (F : List Int) (d2 : Dt) : ∀ (M : List Int) (b : Option Int) (x5 x6 x7 x8 x9 : Dt), ∃ y5 y6 y7 y8 y9,
    forE (tgN 5) g_l_order_L1 (M.map .int) [.int n, .list (hv.map enc3), d2, .list (F.map .int), bestD (wt hv F) b, x5, x6, x7, x8, x9] = .ok (.nx [.int n, .list (hv.map enc3), d2, .list (F.map .int), bestD (wt hv F) (bst (wt hv F) F M b), y5, y6, y7, y8, y9])
  | [], b, x5, x6, x7, x8, x9 => ⟨x5, x6, x7, x8, x9, rfl⟩
  | p :: M, b, x5, x6, x7, x8, x9 => by
    have ha := ahead_ok w hl F p (.int n) d2 (bestD (wt hv F) b) x6 x7 x8 x9
    have hni := hNotIn_ints p F
    have hb : g_l_order_L1 [.int n, .list (hv.map enc3), d2, .list (F.map .int), bestD (wt hv F) b, .int p, x6, x7, x8, x9] = .ok (.nx [.int n, .list (hv.map enc3), d2, .list (F.map .int), bestD (wt hv F) (pick (wt hv F) F p b), .int p, .int (wt hv F p), x7, x8, x9]) := by
      unfold g_l_order_L1
      refine seq_step (set_ok ha) ?_
      dsimp only [List.set]
      by_cases c : p ∈ F
      · have hpk : pick (wt hv F) F p b = b := by
          cases b with
          | none => exact if_pos c
          | some q => exact if_pos c
        rw [hpk]
        have h1 : gTest (gOp hNotIn (gVar 5) (gVar 3)) [.int n, .list (hv.map enc3), d2, .list (F.map .int), bestD (wt hv F) b, .int p, .int (wt hv F p), x7, x8, x9] = .ok false := by
          rw [gTest_def, gOp_def]
          show bnd (hNotIn (.int p) (.list (F.map .int))) asB = _
          rw [hni, decide_eq_true c]
          rfl
        exact (if_f (by rw [gAnd_def, h1, bnd_ok, if_neg Bool.false_ne_true])).trans rfl
      · cases b with
        | none =>
          have hpk : pick (wt hv F) F p none = some p := if_neg c
          rw [hpk]
          refine (if_t ?_).trans (set_ok (d := .tuple [.int (wt hv F p), .int p]) (gTup_ok (xs := [.int (wt hv F p), .int p]) (by rfl) (by simp)))
          have h2 : gTest (gOp hIs (gVar 4) (gC .none)) [.int n, .list (hv.map enc3), d2, .list (F.map .int), bestD (wt hv F) none, .int p, .int (wt hv F p), x7, x8, x9] = .ok true := rfl
          have h1 : gTest (gOp hNotIn (gVar 5) (gVar 3)) [.int n, .list (hv.map enc3), d2, .list (F.map .int), bestD (wt hv F) none, .int p, .int (wt hv F p), x7, x8, x9] = .ok true := by
            rw [gTest_def, gOp_def]
            show bnd (hNotIn (.int p) (.list (F.map .int))) asB = _
            rw [hni, decide_eq_false c]
            rfl
          rw [gAnd_def, h1, bnd_ok, if_pos rfl, gOr_def, h2, bnd_ok, if_pos rfl]
        | some q =>
          have h2 : gTest (gOp hIs (gVar 4) (gC .none)) [.int n, .list (hv.map enc3), d2, .list (F.map .int), bestD (wt hv F) (some q), .int p, .int (wt hv F p), x7, x8, x9] = .ok false := rfl
          have h1 : gTest (gOp hNotIn (gVar 5) (gVar 3)) [.int n, .list (hv.map enc3), d2, .list (F.map .int), bestD (wt hv F) (some q), .int p, .int (wt hv F p), x7, x8, x9] = .ok true := by
            rw [gTest_def, gOp_def]
            show bnd (hNotIn (.int p) (.list (F.map .int))) asB = _
            rw [hni, decide_eq_false c]
            rfl
          have h3 : gTest (gOp hGt (gVar 6) (gOp hIx (gVar 4) (gC (.int (0))))) [.int n, .list (hv.map enc3), d2, .list (F.map .int), bestD (wt hv F) (some q), .int p, .int (wt hv F p), x7, x8, x9] = .ok (decide (wt hv F q < wt hv F p)) := by
            have e : hIx (bestD (wt hv F) (some q)) (.int 0) = .ok (.int (wt hv F q)) := rfl
            simp only [bnd_ok, gVar_def, gC_def, gOp_def, gUn_def, gNil_def, gCons_def, gIf_def, gTest_def, gNot_def, gAnd_def, gOr_def, gAndV_def, gOrV_def, gNotV_def, gCB_def, asB_b, hAdd_i, hSub_i, hLt_i, hLe_i, hGt_i, hGe_i, hMul_r, hMul_l, hMod_i, hDiv_s, hBand_i, hShr_i, hPow_10_18, hPow_10_27, hPow_10_28, hPow_10_29, hPow_10_30, hEq_i, hNe_i, hLen_l, hLen_t, hMin2_i, hMax2_i, hMin3_i, hInt1_b, hInt1_i, hBits_i, hListOf_l, hListOf_t, hTupOf_l, hTupOf_t, gSeqS_def, gSet_def, gRet_def, gIfS_def, gNext_def, gTup_def, gLst_def, List.getElem?_cons_zero, List.getElem?_cons_succ, List.set_cons_zero, List.set_cons_succ, List.length_cons, List.length_nil, Nat.zero_add, Nat.reduceAdd, Nat.reduceLeDiff, Nat.reduceSub, Nat.reduceMul, if_true, if_false, Bool.false_eq_true, List.replicate_succ, List.replicate_zero, List.cons_append, List.nil_append, tgN, tgT, tgCons, tgNil, Int.reducePow, Int.reduceAdd, Int.reduceSub, Int.reduceMul, decide_true, decide_false, Bool.not_true, Bool.not_false, gChain_def, hIsa_int, hIsa_intb, hIsa_list, hIsa_tuple, gDrop_def, e]
          have ht : ∀ z, decide (wt hv F q < wt hv F p) = z → gAnd (gTest (gOp hNotIn (gVar 5) (gVar 3))) (gOr (gTest (gOp hIs (gVar 4) (gC .none))) (gTest (gOp hGt (gVar 6) (gOp hIx (gVar 4) (gC (.int (0))))))) [.int n, .list (hv.map enc3), d2, .list (F.map .int), bestD (wt hv F) (some q), .int p, .int (wt hv F p), x7, x8, x9] = .ok z := fun z e => by
            rw [gAnd_def, h1, bnd_ok, if_pos rfl, gOr_def, h2, bnd_ok, if_neg Bool.false_ne_true, h3, e]
          have hpk : pick (wt hv F) F p (some q) = if wt hv F q < wt hv F p then some p else some q := if_neg c
          rw [hpk]
          by_cases d : wt hv F q < wt hv F p
          · rw [if_pos d]
            exact (if_t (ht true (decide_eq_true d))).trans (set_ok (d := .tuple [.int (wt hv F p), .int p]) (gTup_ok (xs := [.int (wt hv F p), .int p]) (by rfl) (by simp)))
          · rw [if_neg d]
            exact (if_f (ht false (decide_eq_false d))).trans rfl
    obtain ⟨y5, y6, y7, y8, y9, ih⟩ := best_loop w hl F d2 M (pick (wt hv F) F p b) (.int p) (.int (wt hv F p)) x7 x8 x9
    refine ⟨y5, y6, y7, y8, y9, ?_⟩
    rw [List.map_cons]
    unfold forE
    have e : tgN 5 (.int p) [.int n, .list (hv.map enc3), d2, .list (F.map .int), bestD (wt hv F) b, x5, x6, x7, x8, x9] = .ok [.int n, .list (hv.map enc3), d2, .list (F.map .int), bestD (wt hv F) b, .int p, x6, x7, x8, x9] := rfl
    rw [e]
    simp only [hb, bnd_ok]
    exact ih
theorem lft_len {F : List Int} (hn : F.Nodup) (hr : ∀ q ∈ F, 0 ≤ q ∧ q < n) : (lft n F).length + F.length = n.toNat := by
  have h1 : ((pl n).filter fun q => decide (q ∈ F)).Perm F := by
    refine (List.perm_ext_iff_of_nodup ((pl_nodup n).filter _) hn).mpr fun q => ?_
    rw [List.mem_filter, mem_pl, decide_eq_true_eq]
    exact ⟨fun h => h.2, fun h => ⟨hr q h, h⟩⟩
  have h2 := (List.filter_append_perm (fun q => decide (q ∈ F)) (pl n)).length_eq
  have h3 : ((pl n).filter fun q => !decide (q ∈ F)) = lft n F := List.filter_congr fun q _ => by simp
  rw [h3, List.length_append, h1.length_eq, pl_len] at h2
  omega
theorem order_while (w : HOk n hv) (hl : hv.length ≤ 1000) (n10 : n ≤ 10) (first : Int) : ∀ (m fuel : Nat) (F : List Int) (x4 x5 x6 x7 x8 x9 : Dt), F ≠ [] → F.Nodup → (∀ q ∈ F, 0 ≤ q ∧ q < n) → (lft n F).length = m → m < fuel →
    ∃ y4 y5 y6 y7 y8 y9, gWhile g_l_order_T2 g_l_order_L2 fuel [.int n, .list (hv.map enc3), .int first, .list (F.map .int), x4, x5, x6, x7, x8, x9] = .ok (.nx [.int n, .list (hv.map enc3), .int first, .list ((run n hv first m F).map .int), y4, y5, y6, y7, y8, y9])
  | 0, fuel, F, x4, x5, x6, x7, x8, x9, hF, hn, hr, hm, hf => by
    have := lft_len hn hr
    have hd : decide ((F.length : Int) < n) = false := decide_eq_false (by omega)
    exact ⟨x4, x5, x6, x7, x8, x9, while_f (by unfold g_l_order_T2; simp only [bnd_ok, gVar_def, gC_def, gOp_def, gUn_def, gNil_def, gCons_def, gIf_def, gTest_def, gNot_def, gAnd_def, gOr_def, gAndV_def, gOrV_def, gNotV_def, gCB_def, asB_b, hAdd_i, hSub_i, hLt_i, hLe_i, hGt_i, hGe_i, hMul_r, hMul_l, hMod_i, hDiv_s, hBand_i, hShr_i, hPow_10_18, hPow_10_27, hPow_10_28, hPow_10_29, hPow_10_30, hEq_i, hNe_i, hLen_l, hLen_t, hMin2_i, hMax2_i, hMin3_i, hInt1_b, hInt1_i, hBits_i, hListOf_l, hListOf_t, hTupOf_l, hTupOf_t, gSeqS_def, gSet_def, gRet_def, gIfS_def, gNext_def, gTup_def, gLst_def, List.getElem?_cons_zero, List.getElem?_cons_succ, List.set_cons_zero, List.set_cons_succ, List.length_cons, List.length_nil, Nat.zero_add, Nat.reduceAdd, Nat.reduceLeDiff, Nat.reduceSub, Nat.reduceMul, if_true, if_false, Bool.false_eq_true, List.replicate_succ, List.replicate_zero, List.cons_append, List.nil_append, tgN, tgT, tgCons, tgNil, Int.reducePow, Int.reduceAdd, Int.reduceSub, Int.reduceMul, decide_true, decide_false, Bool.not_true, Bool.not_false, gChain_def, hIsa_int, hIsa_intb, hIsa_list, hIsa_tuple, gDrop_def, List.length_map, hd]) (by omega)⟩
  | m + 1, 0, _, _, _, _, _, _, _, _, _, _, _, hf => absurd hf (Nat.not_lt_zero _)
  | m + 1, fuel + 1, F, x4, x5, x6, x7, x8, x9, hF, hn, hr, hm, hf => by
    have hlen := lft_len hn hr
    have hd : decide ((F.length : Int) < n) = true := decide_eq_true (by omega)
    obtain ⟨y5, y6, y7, y8, y9, hb⟩ := best_loop w hl F (.int first) (pl n) none x5 x6 x7 x8 x9
    cases hL : lft n F with
    | nil => rw [hL] at hm; simp at hm
    | cons c L =>
      have hbst : bst (wt hv F) F (pl n) none = some (nxt n hv F) := by
        rw [bst_none]
        have hL' : ((pl n).filter fun q => decide (q ∉ F)) = c :: L := hL
        rw [hL']
        unfold nxt
        rw [hL]
      rw [hbst] at hb
      have hpm : nxt n hv F ∈ lft n F := by
        unfold nxt
        rw [hL]
        simp only
        obtain ⟨p1, _⟩ := np_ok (wt hv F) (c :: L) c
        rcases p1 with h | h
        · rw [h]
          exact List.mem_cons_self
        · exact h
      generalize hp : nxt n hv F = p at *
      have hpf : (0 ≤ p ∧ p < n) ∧ p ∉ F := by
        unfold lft at hpm
        rw [List.mem_filter, mem_pl, decide_eq_true_eq] at hpm
        exact hpm
      have hn' : (F ++ [p]).Nodup := by
        rw [List.nodup_append]
        exact ⟨hn, List.nodup_cons.mpr ⟨by simp, List.nodup_nil⟩, fun a ha b hb e => hpf.2 (by rw [List.mem_singleton.mp hb] at e; exact e ▸ ha)⟩
      have hr' : ∀ q ∈ F ++ [p], 0 ≤ q ∧ q < n := fun q hq => by
        rcases List.mem_append.mp hq with h | h
        · exact hr q h
        · rw [List.mem_singleton.mp h]
          exact hpf.1
      have hlen' := lft_len hn' hr'
      rw [List.length_append, List.length_singleton] at hlen'
      obtain ⟨z4, z5, z6, z7, z8, z9, ih⟩ := order_while w hl n10 first m fuel (F ++ [p]) (bestD (wt hv F) (some p)) y5 y6 y7 y8 y9 (by simp) hn' hr' (by omega) (by omega)
      refine ⟨z4, z5, z6, z7, z8, z9, ?_⟩
      have hrun : run n hv first (m + 1) F = run n hv first m (F ++ [p]) := by
        show run n hv first m (F ++ [if F = [] then first else nxt n hv F]) = _
        rw [if_neg hF, hp]
      rw [hrun, ← ih]
      refine while_t (by unfold g_l_order_T2; simp only [bnd_ok, gVar_def, gC_def, gOp_def, gUn_def, gNil_def, gCons_def, gIf_def, gTest_def, gNot_def, gAnd_def, gOr_def, gAndV_def, gOrV_def, gNotV_def, gCB_def, asB_b, hAdd_i, hSub_i, hLt_i, hLe_i, hGt_i, hGe_i, hMul_r, hMul_l, hMod_i, hDiv_s, hBand_i, hShr_i, hPow_10_18, hPow_10_27, hPow_10_28, hPow_10_29, hPow_10_30, hEq_i, hNe_i, hLen_l, hLen_t, hMin2_i, hMax2_i, hMin3_i, hInt1_b, hInt1_i, hBits_i, hListOf_l, hListOf_t, hTupOf_l, hTupOf_t, gSeqS_def, gSet_def, gRet_def, gIfS_def, gNext_def, gTup_def, gLst_def, List.getElem?_cons_zero, List.getElem?_cons_succ, List.set_cons_zero, List.set_cons_succ, List.length_cons, List.length_nil, Nat.zero_add, Nat.reduceAdd, Nat.reduceLeDiff, Nat.reduceSub, Nat.reduceMul, if_true, if_false, Bool.false_eq_true, List.replicate_succ, List.replicate_zero, List.cons_append, List.nil_append, tgN, tgT, tgCons, tgNil, Int.reducePow, Int.reduceAdd, Int.reduceSub, Int.reduceMul, decide_true, decide_false, Bool.not_true, Bool.not_false, gChain_def, hIsa_int, hIsa_intb, hIsa_list, hIsa_tuple, gDrop_def, List.length_map, hd]) ?_
      unfold g_l_order_L2
      refine seq_step (set_ok (d := .none) (by rfl)) ?_
      dsimp only [List.set]
      refine seq_step (for_ok (ds := (pl n).map .int) ?_ hb) ?_
      · rw [rng1_ok (j := n) (by rfl) (by omega) (by omega), rangeD_pl]
      · have hFl := hlen
        refine (gApp_l (i := 3) (ds := F.map .int) (d := .int p) rfl (by rfl) (by rw [List.length_map]; omega)).trans ?_
        dsimp only [List.set]
        rw [show F.map PyData.int ++ [.int p] = (F ++ [p]).map .int by rw [List.map_append]; rfl]
theorem l_order_ok {first : Int} (w : HOk n hv) (hl : hv.length ≤ 1000) (n1 : 1 ≤ n) (n10 : n ≤ 10) (f0 : 0 ≤ first) (f1 : first < n) : f_l_order [.int n, .list (hv.map enc3), .int first] = .ok (.list ((run n hv first n.toNat []).map .int)) := by
  have hr : ∀ q ∈ [first], 0 ≤ q ∧ q < n := fun q hq => by rw [List.mem_singleton.mp hq]; exact ⟨f0, f1⟩
  have hn : [first].Nodup := List.nodup_cons.mpr ⟨by simp, List.nodup_nil⟩
  have hlen := lft_len hn hr
  rw [List.length_singleton] at hlen
  obtain ⟨y4, y5, y6, y7, y8, y9, hw⟩ := order_while w hl n10 first (n.toNat - 1) 100 [first] .none .none .none .none .none .none (by simp) hn hr (by omega) (by omega)
  have hrun : run n hv first n.toNat [] = run n hv first (n.toNat - 1) [first] := by
    obtain ⟨m, hm⟩ : ∃ m, n.toNat = m + 1 := ⟨n.toNat - 1, by omega⟩
    rw [hm]
    rfl
  rw [hrun]
  refine fnL_rt ?_
  show g_l_order [.int n, .list (hv.map enc3), .int first, .none, .none, .none, .none, .none, .none, .none] = _
  unfold g_l_order
  refine seq_step (set_ok (d := .list ([first].map .int)) (by rfl)) ?_
  dsimp only [List.set]
  refine seq_step hw (ret_ok ?_)
  unfold gPurV
  rw [gPurN_def]
  show (if pureIn (.list ((run n hv first (n.toNat - 1) [first]).map .int)) then O.ok (PyData.list ((run n hv first (n.toNat - 1) [first]).map .int)) else .bad) = _
  simp only [pureIn, pureA_ints, if_true]
/-! the bands -/
variable {F : List Int}
def below (l i : Nat) : It → Bool := fun e => decide (e.2.1 = i) && decide (e.1 < l)
theorem Rw_below (o : Ord n F) (w : Web n hv) {l i : Nat} (h : l ≤ i) : Rw hv F l i = sw (hv.map (item F)) (below l i) := by
  have a := late_wt o w (i := i) (j := l) h
  have b := late_wt o w (i := i) (j := 0) (by omega)
  have z := Rw_zero (F := F) w i
  have c := sw_split (E := hv.map (item F)) (r := lateB i 0) (p := lateB i l) (q := below l i) (fun e he => by
    unfold lateB below
    rw [Bool.eq_iff_iff]
    simp only [Bool.or_eq_true, Bool.and_eq_true, decide_eq_true_eq]
    omega) (fun e he h1 => by
    unfold lateB at h1
    unfold below
    rw [Bool.and_eq_true, decide_eq_true_eq, decide_eq_true_eq] at h1
    rw [decide_eq_false (show ¬ e.1 < l by omega), Bool.and_false])
  omega
theorem max_if (a b : Nat) : (if (b : Int) > (a : Int) then (b : Int) else (a : Int)) = ((max a b : Nat) : Int) := by
  split <;> omega
theorem min_if (a b : Nat) : (if (b : Int) < (a : Int) then (b : Int) else (a : Int)) = ((min a b : Nat) : Int) := by
  split <;> omega
theorem low_loop (o : Ord n F) (w : Web n hv) (hl : hv.length ≤ 1000) {k : Nat} (hk : k < hv.length) (d2 : Dt) (x4 x5 x6 x10 x11 x12 x13 x14 : Dt) :
    ∃ y10 y11 y12 y13 y14, gFor (gEnum (gCons (gVar 0) (gNil))) (tgT (tgCons (tgN 10) (tgCons (tgT (tgCons (tgN 11) (tgCons (tgN 12) (tgCons (tgN 13) (tgNil))))) (tgNil)))) g_l_bands_L1 [.list (hv.map enc3), .list (F.map .int), d2, .int (k : Nat), x4, x5, x6, .int (((item F hv[k]).2.1 : Nat) : Int), .int (((item F hv[k]).1 : Nat) : Int), .int 0, x10, x11, x12, x13, x14]
      = .ok (.nx [.list (hv.map enc3), .list (F.map .int), d2, .int (k : Nat), x4, x5, x6, .int (((item F hv[k]).2.1 : Nat) : Int), .int (((item F hv[k]).1 : Nat) : Int), .int (lo hv F k), y10, y11, y12, y13, y14]) := by
  have hlt : (item F hv[k]).1 < (item F hv[k]).2.1 := (items_ok o w).2 _ (List.mem_map.mpr ⟨_, List.getElem_mem hk, rfl⟩)
  have hlo := lo_eq (F := F) hk
  rw [Rw_below o w (by omega)] at hlo
  generalize (item F hv[k]).1 = l at *
  generalize (item F hv[k]).2.1 = i at *
  obtain ⟨ρ', hf, y10, y11, y12, y13, y14, rfl⟩ := forE_ix (fun (q : T3 × Nat) => PyData.tuple [.int (q.2 : Nat), enc3 q.1]) (h := tgT (tgCons (tgN 10) (tgCons (tgT (tgCons (tgN 11) (tgCons (tgN 12) (tgCons (tgN 13) (tgNil))))) (tgNil)))) (b := g_l_bands_L1) hv.zipIdx
    (fun m ρ => ∃ (y10 y11 y12 y13 y14 : Dt), ρ = [.list (hv.map enc3), .list (F.map .int), d2, .int (k : Nat), x4, x5, x6, .int (i : Nat), .int (l : Nat), .int (sw ((hv.map (item F)).take m) (below l i) + sw ((hv.map (item F)).take (min m k)) (pairB l i)), y10, y11, y12, y13, y14])
    (ρ := [.list (hv.map enc3), .list (F.map .int), d2, .int (k : Nat), x4, x5, x6, .int (i : Nat), .int (l : Nat), .int 0, x10, x11, x12, x13, x14]) ⟨x10, x11, x12, x13, x14, by rw [Nat.zero_min, List.take_zero]; rfl⟩ (by
      rintro m ρ hm ⟨y10, y11, y12, y13, y14, rfl⟩
      rw [List.length_zipIdx] at hm
      rw [List.getElem_zipIdx]
      have hmem := List.getElem_mem hm
      obtain ⟨ha, hb, hne, h4⟩ := o.ends w hmem
      have hs1 : sw ((hv.map (item F)).take (m + 1)) (below l i) = sw ((hv.map (item F)).take m) (below l i) + (if below l i (item F hv[m]) then hv[m].2.2 else 0) := by
        rw [take_succ_map _ _ hm, sw_snoc]
        rfl
      have hs2 : sw ((hv.map (item F)).take (min (m + 1) k)) (pairB l i) = sw ((hv.map (item F)).take (min m k)) (pairB l i) + (if m < k ∧ pairB l i (item F hv[m]) = true then hv[m].2.2 else 0) := by
        by_cases c : m < k
        · rw [Nat.min_eq_left (by omega), Nat.min_eq_left (by omega), take_succ_map _ _ hm, sw_snoc]
          by_cases c2 : pairB l i (item F hv[m]) = true
          · rw [if_pos c2, if_pos ⟨c, c2⟩]
            rfl
          · rw [if_neg c2, if_neg (fun z => c2 z.2)]
        · rw [Nat.min_eq_right (by omega), Nat.min_eq_right (by omega), if_neg (fun z => c z.1), Int.add_zero]
      rw [hs1, hs2]
      generalize sw ((hv.map (item F)).take m) (below l i) = A at *
      generalize sw ((hv.map (item F)).take (min m k)) (pairB l i) = B at *
      have hx1 : ∀ (z9 z14 : Dt), gCB hMax2 (gCons (gIdx (gVar 1) (gVar 11)) (gCons (gIdx (gVar 1) (gVar 12)) (gNil))) [.list (hv.map enc3), .list (F.map .int), d2, .int (k : Nat), x4, x5, x6, .int (i : Nat), .int (l : Nat), z9, .int (0 + m : Nat), .int hv[m].1, .int hv[m].2.1, .int hv[m].2.2, z14] = .ok (.int (((item F hv[m]).2.1 : Nat) : Int)) := fun z9 z14 => by
        have i1 : gIdx (gVar 1) (gVar 11) [.list (hv.map enc3), .list (F.map .int), d2, .int (k : Nat), x4, x5, x6, .int (i : Nat), .int (l : Nat), z9, .int (0 + m : Nat), .int hv[m].1, .int hv[m].2.1, .int hv[m].2.2, z14] = _ := idx_ok (ns := F) (k := hv[m].1) rfl rfl ha
        have i2 : gIdx (gVar 1) (gVar 12) [.list (hv.map enc3), .list (F.map .int), d2, .int (k : Nat), x4, x5, x6, .int (i : Nat), .int (l : Nat), z9, .int (0 + m : Nat), .int hv[m].1, .int hv[m].2.1, .int hv[m].2.2, z14] = _ := idx_ok (ns := F) (k := hv[m].2.1) rfl rfl hb
        rw [gCB_def, gCons_def, i1, bnd_ok, gCons_def, i2, bnd_ok, gNil_def, bnd_ok, bnd_ok, bnd_ok, hMax2_i, max_if]
        rfl
      have hx2 : ∀ (z9 z14 : Dt), gCB hMin2 (gCons (gIdx (gVar 1) (gVar 11)) (gCons (gIdx (gVar 1) (gVar 12)) (gNil))) [.list (hv.map enc3), .list (F.map .int), d2, .int (k : Nat), x4, x5, x6, .int (i : Nat), .int (l : Nat), z9, .int (0 + m : Nat), .int hv[m].1, .int hv[m].2.1, .int hv[m].2.2, z14] = .ok (.int (((item F hv[m]).1 : Nat) : Int)) := fun z9 z14 => by
        have i1 : gIdx (gVar 1) (gVar 11) [.list (hv.map enc3), .list (F.map .int), d2, .int (k : Nat), x4, x5, x6, .int (i : Nat), .int (l : Nat), z9, .int (0 + m : Nat), .int hv[m].1, .int hv[m].2.1, .int hv[m].2.2, z14] = _ := idx_ok (ns := F) (k := hv[m].1) rfl rfl ha
        have i2 : gIdx (gVar 1) (gVar 12) [.list (hv.map enc3), .list (F.map .int), d2, .int (k : Nat), x4, x5, x6, .int (i : Nat), .int (l : Nat), z9, .int (0 + m : Nat), .int hv[m].1, .int hv[m].2.1, .int hv[m].2.2, z14] = _ := idx_ok (ns := F) (k := hv[m].2.1) rfl rfl hb
        rw [gCB_def, gCons_def, i1, bnd_ok, gCons_def, i2, bnd_ok, gNil_def, bnd_ok, bnd_ok, bnd_ok, hMin2_i, min_if]
        rfl
      refine ⟨[.list (hv.map enc3), .list (F.map .int), d2, .int (k : Nat), x4, x5, x6, .int (i : Nat), .int (l : Nat), .int (A + B), .int (0 + m : Nat), .int hv[m].1, .int hv[m].2.1, .int hv[m].2.2, y14], ?_⟩
      unfold g_l_bands_L1
      have ht1 : gTest (gOp hEq (gCB hMax2 (gCons (gIdx (gVar 1) (gVar 11)) (gCons (gIdx (gVar 1) (gVar 12)) (gNil)))) (gVar 7)) [.list (hv.map enc3), .list (F.map .int), d2, .int (k : Nat), x4, x5, x6, .int (i : Nat), .int (l : Nat), .int (A + B), .int (0 + m : Nat), .int hv[m].1, .int hv[m].2.1, .int hv[m].2.2, y14] = .ok ((((item F hv[m]).2.1 : Nat) : Int) == (i : Int)) := by
        rw [gTest_def, gOp_def, hx1]
        simp only [gVar_def, List.getElem?_cons_zero, List.getElem?_cons_succ, bnd_ok, hEq_i, asB_b]
      generalize hie : (item F hv[m]).1 = e1 at *
      generalize hil : (item F hv[m]).2.1 = e2 at *
      have hbel : below l i (item F hv[m]) = (decide (e2 = i) && decide (e1 < l)) := by unfold below; rw [hie, hil]
      have hpai : pairB l i (item F hv[m]) = (decide (e1 = l) && decide (e2 = i)) := by unfold pairB; rw [hie, hil]
      rw [hbel, hpai]
      by_cases c : e2 = i
      · subst c
        have hq : ((e2 : Int) == (e2 : Int)) = true := beq_self_eq_true _
        rw [hq] at ht1
        have hm0 : ((0 + m : Nat) : Int) = (m : Int) := by omega
        by_cases c2 : e1 < l ∨ e1 = l ∧ m < k
        · refine ⟨[.list (hv.map enc3), .list (F.map .int), d2, .int (k : Nat), x4, x5, x6, .int (e2 : Nat), .int (l : Nat), .int (A + B + hv[m].2.2), .int (0 + m : Nat), .int hv[m].1, .int hv[m].2.1, .int hv[m].2.2, .int (e1 : Nat)], rfl, .inl ((if_t ht1).trans ?_), .int (0 + m : Nat), .int hv[m].1, .int hv[m].2.1, .int hv[m].2.2, .int (e1 : Nat), ?_⟩
          · refine seq_step (set_ok (hx2 _ _)) ?_
            dsimp only [List.set]
            refine (if_t ?_).trans (set_ok (by simp only [bnd_ok, gVar_def, gC_def, gOp_def, gUn_def, gNil_def, gCons_def, gIf_def, gTest_def, gNot_def, gAnd_def, gOr_def, gAndV_def, gOrV_def, gNotV_def, gCB_def, asB_b, hAdd_i, hSub_i, hLt_i, hLe_i, hGt_i, hGe_i, hMul_r, hMul_l, hMod_i, hDiv_s, hBand_i, hShr_i, hPow_10_18, hPow_10_27, hPow_10_28, hPow_10_29, hPow_10_30, hEq_i, hNe_i, hLen_l, hLen_t, hMin2_i, hMax2_i, hMin3_i, hInt1_b, hInt1_i, hBits_i, hListOf_l, hListOf_t, hTupOf_l, hTupOf_t, gSeqS_def, gSet_def, gRet_def, gIfS_def, gNext_def, gTup_def, gLst_def, List.getElem?_cons_zero, List.getElem?_cons_succ, List.set_cons_zero, List.set_cons_succ, List.length_cons, List.length_nil, Nat.zero_add, Nat.reduceAdd, Nat.reduceLeDiff, Nat.reduceSub, Nat.reduceMul, if_true, if_false, Bool.false_eq_true, List.replicate_succ, List.replicate_zero, List.cons_append, List.nil_append, tgN, tgT, tgCons, tgNil, Int.reducePow, Int.reduceAdd, Int.reduceSub, Int.reduceMul, decide_true, decide_false, Bool.not_true, Bool.not_false, gChain_def, hIsa_int, hIsa_intb, hIsa_list, hIsa_tuple, gDrop_def]))
            have tA : gTest (gOp hLt (gVar 14) (gVar 8)) [.list (hv.map enc3), .list (F.map .int), d2, .int (k : Nat), x4, x5, x6, .int (e2 : Nat), .int (l : Nat), .int (A + B), .int (0 + m : Nat), .int hv[m].1, .int hv[m].2.1, .int hv[m].2.2, .int (e1 : Nat)] = .ok (decide ((e1 : Int) < (l : Int))) := by simp only [bnd_ok, gVar_def, gC_def, gOp_def, gUn_def, gNil_def, gCons_def, gIf_def, gTest_def, gNot_def, gAnd_def, gOr_def, gAndV_def, gOrV_def, gNotV_def, gCB_def, asB_b, hAdd_i, hSub_i, hLt_i, hLe_i, hGt_i, hGe_i, hMul_r, hMul_l, hMod_i, hDiv_s, hBand_i, hShr_i, hPow_10_18, hPow_10_27, hPow_10_28, hPow_10_29, hPow_10_30, hEq_i, hNe_i, hLen_l, hLen_t, hMin2_i, hMax2_i, hMin3_i, hInt1_b, hInt1_i, hBits_i, hListOf_l, hListOf_t, hTupOf_l, hTupOf_t, gSeqS_def, gSet_def, gRet_def, gIfS_def, gNext_def, gTup_def, gLst_def, List.getElem?_cons_zero, List.getElem?_cons_succ, List.set_cons_zero, List.set_cons_succ, List.length_cons, List.length_nil, Nat.zero_add, Nat.reduceAdd, Nat.reduceLeDiff, Nat.reduceSub, Nat.reduceMul, if_true, if_false, Bool.false_eq_true, List.replicate_succ, List.replicate_zero, List.cons_append, List.nil_append, tgN, tgT, tgCons, tgNil, Int.reducePow, Int.reduceAdd, Int.reduceSub, Int.reduceMul, decide_true, decide_false, Bool.not_true, Bool.not_false, gChain_def, hIsa_int, hIsa_intb, hIsa_list, hIsa_tuple, gDrop_def]
            have tB : gTest (gOp hEq (gVar 14) (gVar 8)) [.list (hv.map enc3), .list (F.map .int), d2, .int (k : Nat), x4, x5, x6, .int (e2 : Nat), .int (l : Nat), .int (A + B), .int (0 + m : Nat), .int hv[m].1, .int hv[m].2.1, .int hv[m].2.2, .int (e1 : Nat)] = .ok ((e1 : Int) == (l : Int)) := by simp only [bnd_ok, gVar_def, gC_def, gOp_def, gUn_def, gNil_def, gCons_def, gIf_def, gTest_def, gNot_def, gAnd_def, gOr_def, gAndV_def, gOrV_def, gNotV_def, gCB_def, asB_b, hAdd_i, hSub_i, hLt_i, hLe_i, hGt_i, hGe_i, hMul_r, hMul_l, hMod_i, hDiv_s, hBand_i, hShr_i, hPow_10_18, hPow_10_27, hPow_10_28, hPow_10_29, hPow_10_30, hEq_i, hNe_i, hLen_l, hLen_t, hMin2_i, hMax2_i, hMin3_i, hInt1_b, hInt1_i, hBits_i, hListOf_l, hListOf_t, hTupOf_l, hTupOf_t, gSeqS_def, gSet_def, gRet_def, gIfS_def, gNext_def, gTup_def, gLst_def, List.getElem?_cons_zero, List.getElem?_cons_succ, List.set_cons_zero, List.set_cons_succ, List.length_cons, List.length_nil, Nat.zero_add, Nat.reduceAdd, Nat.reduceLeDiff, Nat.reduceSub, Nat.reduceMul, if_true, if_false, Bool.false_eq_true, List.replicate_succ, List.replicate_zero, List.cons_append, List.nil_append, tgN, tgT, tgCons, tgNil, Int.reducePow, Int.reduceAdd, Int.reduceSub, Int.reduceMul, decide_true, decide_false, Bool.not_true, Bool.not_false, gChain_def, hIsa_int, hIsa_intb, hIsa_list, hIsa_tuple, gDrop_def]
            have tC : gTest (gOp hLt (gVar 10) (gVar 3)) [.list (hv.map enc3), .list (F.map .int), d2, .int (k : Nat), x4, x5, x6, .int (e2 : Nat), .int (l : Nat), .int (A + B), .int (0 + m : Nat), .int hv[m].1, .int hv[m].2.1, .int hv[m].2.2, .int (e1 : Nat)] = .ok (decide (((0 + m : Nat) : Int) < (k : Int))) := by simp only [bnd_ok, gVar_def, gC_def, gOp_def, gUn_def, gNil_def, gCons_def, gIf_def, gTest_def, gNot_def, gAnd_def, gOr_def, gAndV_def, gOrV_def, gNotV_def, gCB_def, asB_b, hAdd_i, hSub_i, hLt_i, hLe_i, hGt_i, hGe_i, hMul_r, hMul_l, hMod_i, hDiv_s, hBand_i, hShr_i, hPow_10_18, hPow_10_27, hPow_10_28, hPow_10_29, hPow_10_30, hEq_i, hNe_i, hLen_l, hLen_t, hMin2_i, hMax2_i, hMin3_i, hInt1_b, hInt1_i, hBits_i, hListOf_l, hListOf_t, hTupOf_l, hTupOf_t, gSeqS_def, gSet_def, gRet_def, gIfS_def, gNext_def, gTup_def, gLst_def, List.getElem?_cons_zero, List.getElem?_cons_succ, List.set_cons_zero, List.set_cons_succ, List.length_cons, List.length_nil, Nat.zero_add, Nat.reduceAdd, Nat.reduceLeDiff, Nat.reduceSub, Nat.reduceMul, if_true, if_false, Bool.false_eq_true, List.replicate_succ, List.replicate_zero, List.cons_append, List.nil_append, tgN, tgT, tgCons, tgNil, Int.reducePow, Int.reduceAdd, Int.reduceSub, Int.reduceMul, decide_true, decide_false, Bool.not_true, Bool.not_false, gChain_def, hIsa_int, hIsa_intb, hIsa_list, hIsa_tuple, gDrop_def]
            rw [gOr_def, tA, bnd_ok]
            rcases c2 with c2 | c2
            · rw [decide_eq_true (show (e1 : Int) < (l : Int) by omega), if_pos rfl]
            · rw [decide_eq_false (show ¬ (e1 : Int) < (l : Int) by omega), if_neg Bool.false_ne_true, gAnd_def, tB, bnd_ok, beq_iff_eq.mpr (show (e1 : Int) = (l : Int) by omega), if_pos rfl, tC, decide_eq_true (by omega)]
          · have h : A + B + hv[m].2.2 = A + (if (decide (e2 = e2) && decide (e1 < l)) = true then hv[m].2.2 else 0) + (B + (if m < k ∧ (decide (e1 = l) && decide (e2 = e2)) = true then hv[m].2.2 else 0)) := by
              rcases c2 with c2 | c2
              · rw [if_pos (by simp [c2]), if_neg (by simp; omega)]
                omega
              · rw [if_neg (by simp; omega), if_pos (by simp [c2])]
                omega
            rw [h]
        · refine ⟨[.list (hv.map enc3), .list (F.map .int), d2, .int (k : Nat), x4, x5, x6, .int (e2 : Nat), .int (l : Nat), .int (A + B), .int (0 + m : Nat), .int hv[m].1, .int hv[m].2.1, .int hv[m].2.2, .int (e1 : Nat)], rfl, .inl ((if_t ht1).trans ?_), .int (0 + m : Nat), .int hv[m].1, .int hv[m].2.1, .int hv[m].2.2, .int (e1 : Nat), ?_⟩
          · refine seq_step (set_ok (hx2 _ _)) ?_
            dsimp only [List.set]
            refine (if_f ?_).trans rfl
            have tA : gTest (gOp hLt (gVar 14) (gVar 8)) [.list (hv.map enc3), .list (F.map .int), d2, .int (k : Nat), x4, x5, x6, .int (e2 : Nat), .int (l : Nat), .int (A + B), .int (0 + m : Nat), .int hv[m].1, .int hv[m].2.1, .int hv[m].2.2, .int (e1 : Nat)] = .ok (decide ((e1 : Int) < (l : Int))) := by simp only [bnd_ok, gVar_def, gC_def, gOp_def, gUn_def, gNil_def, gCons_def, gIf_def, gTest_def, gNot_def, gAnd_def, gOr_def, gAndV_def, gOrV_def, gNotV_def, gCB_def, asB_b, hAdd_i, hSub_i, hLt_i, hLe_i, hGt_i, hGe_i, hMul_r, hMul_l, hMod_i, hDiv_s, hBand_i, hShr_i, hPow_10_18, hPow_10_27, hPow_10_28, hPow_10_29, hPow_10_30, hEq_i, hNe_i, hLen_l, hLen_t, hMin2_i, hMax2_i, hMin3_i, hInt1_b, hInt1_i, hBits_i, hListOf_l, hListOf_t, hTupOf_l, hTupOf_t, gSeqS_def, gSet_def, gRet_def, gIfS_def, gNext_def, gTup_def, gLst_def, List.getElem?_cons_zero, List.getElem?_cons_succ, List.set_cons_zero, List.set_cons_succ, List.length_cons, List.length_nil, Nat.zero_add, Nat.reduceAdd, Nat.reduceLeDiff, Nat.reduceSub, Nat.reduceMul, if_true, if_false, Bool.false_eq_true, List.replicate_succ, List.replicate_zero, List.cons_append, List.nil_append, tgN, tgT, tgCons, tgNil, Int.reducePow, Int.reduceAdd, Int.reduceSub, Int.reduceMul, decide_true, decide_false, Bool.not_true, Bool.not_false, gChain_def, hIsa_int, hIsa_intb, hIsa_list, hIsa_tuple, gDrop_def]
            have tB : gTest (gOp hEq (gVar 14) (gVar 8)) [.list (hv.map enc3), .list (F.map .int), d2, .int (k : Nat), x4, x5, x6, .int (e2 : Nat), .int (l : Nat), .int (A + B), .int (0 + m : Nat), .int hv[m].1, .int hv[m].2.1, .int hv[m].2.2, .int (e1 : Nat)] = .ok ((e1 : Int) == (l : Int)) := by simp only [bnd_ok, gVar_def, gC_def, gOp_def, gUn_def, gNil_def, gCons_def, gIf_def, gTest_def, gNot_def, gAnd_def, gOr_def, gAndV_def, gOrV_def, gNotV_def, gCB_def, asB_b, hAdd_i, hSub_i, hLt_i, hLe_i, hGt_i, hGe_i, hMul_r, hMul_l, hMod_i, hDiv_s, hBand_i, hShr_i, hPow_10_18, hPow_10_27, hPow_10_28, hPow_10_29, hPow_10_30, hEq_i, hNe_i, hLen_l, hLen_t, hMin2_i, hMax2_i, hMin3_i, hInt1_b, hInt1_i, hBits_i, hListOf_l, hListOf_t, hTupOf_l, hTupOf_t, gSeqS_def, gSet_def, gRet_def, gIfS_def, gNext_def, gTup_def, gLst_def, List.getElem?_cons_zero, List.getElem?_cons_succ, List.set_cons_zero, List.set_cons_succ, List.length_cons, List.length_nil, Nat.zero_add, Nat.reduceAdd, Nat.reduceLeDiff, Nat.reduceSub, Nat.reduceMul, if_true, if_false, Bool.false_eq_true, List.replicate_succ, List.replicate_zero, List.cons_append, List.nil_append, tgN, tgT, tgCons, tgNil, Int.reducePow, Int.reduceAdd, Int.reduceSub, Int.reduceMul, decide_true, decide_false, Bool.not_true, Bool.not_false, gChain_def, hIsa_int, hIsa_intb, hIsa_list, hIsa_tuple, gDrop_def]
            have tC : gTest (gOp hLt (gVar 10) (gVar 3)) [.list (hv.map enc3), .list (F.map .int), d2, .int (k : Nat), x4, x5, x6, .int (e2 : Nat), .int (l : Nat), .int (A + B), .int (0 + m : Nat), .int hv[m].1, .int hv[m].2.1, .int hv[m].2.2, .int (e1 : Nat)] = .ok (decide (((0 + m : Nat) : Int) < (k : Int))) := by simp only [bnd_ok, gVar_def, gC_def, gOp_def, gUn_def, gNil_def, gCons_def, gIf_def, gTest_def, gNot_def, gAnd_def, gOr_def, gAndV_def, gOrV_def, gNotV_def, gCB_def, asB_b, hAdd_i, hSub_i, hLt_i, hLe_i, hGt_i, hGe_i, hMul_r, hMul_l, hMod_i, hDiv_s, hBand_i, hShr_i, hPow_10_18, hPow_10_27, hPow_10_28, hPow_10_29, hPow_10_30, hEq_i, hNe_i, hLen_l, hLen_t, hMin2_i, hMax2_i, hMin3_i, hInt1_b, hInt1_i, hBits_i, hListOf_l, hListOf_t, hTupOf_l, hTupOf_t, gSeqS_def, gSet_def, gRet_def, gIfS_def, gNext_def, gTup_def, gLst_def, List.getElem?_cons_zero, List.getElem?_cons_succ, List.set_cons_zero, List.set_cons_succ, List.length_cons, List.length_nil, Nat.zero_add, Nat.reduceAdd, Nat.reduceLeDiff, Nat.reduceSub, Nat.reduceMul, if_true, if_false, Bool.false_eq_true, List.replicate_succ, List.replicate_zero, List.cons_append, List.nil_append, tgN, tgT, tgCons, tgNil, Int.reducePow, Int.reduceAdd, Int.reduceSub, Int.reduceMul, decide_true, decide_false, Bool.not_true, Bool.not_false, gChain_def, hIsa_int, hIsa_intb, hIsa_list, hIsa_tuple, gDrop_def]
            rw [gOr_def, tA, bnd_ok, decide_eq_false (show ¬ (e1 : Int) < (l : Int) by omega), if_neg Bool.false_ne_true, gAnd_def, tB, bnd_ok]
            by_cases c3 : e1 = l
            · rw [beq_iff_eq.mpr (show (e1 : Int) = (l : Int) by omega), if_pos rfl, tC, decide_eq_false (by omega)]
            · rw [beq_eq_false_iff_ne.mpr (show (e1 : Int) ≠ (l : Int) by omega), if_neg Bool.false_ne_true]
          · have h : A + B = A + (if (decide (e2 = e2) && decide (e1 < l)) = true then hv[m].2.2 else 0) + (B + (if m < k ∧ (decide (e1 = l) && decide (e2 = e2)) = true then hv[m].2.2 else 0)) := by
              rw [if_neg (by simp; omega), if_neg (by simp; omega)]
              omega
            rw [h]
      · have hq : ((e2 : Int) == (i : Int)) = false := beq_eq_false_iff_ne.mpr (by omega)
        rw [hq] at ht1
        refine ⟨[.list (hv.map enc3), .list (F.map .int), d2, .int (k : Nat), x4, x5, x6, .int (i : Nat), .int (l : Nat), .int (A + B), .int (0 + m : Nat), .int hv[m].1, .int hv[m].2.1, .int hv[m].2.2, y14], rfl, .inl ((if_f ht1).trans rfl), .int (0 + m : Nat), .int hv[m].1, .int hv[m].2.1, .int hv[m].2.2, y14, ?_⟩
        rw [if_neg (by simp [c]), if_neg (by simp [c]), Int.add_zero, Int.add_zero])
  rw [List.length_zipIdx, Nat.min_eq_right (by omega), List.take_of_length_le (by rw [List.length_map]; exact Nat.le_refl _), ← hlo] at hf
  refine ⟨y10, y11, y12, y13, y14, for_ok (ds := hv.zipIdx.map fun (q : T3 × Nat) => PyData.tuple [.int (q.2 : Nat), enc3 q.1]) ?_ hf⟩
  refine (enum_ok (es := hv.map enc3) (by rfl)).trans ?_
  rw [enumD_map]
theorem l_bands_ok (o : Ord n F) (w : Web n hv) (hl : hv.length ≤ 1000) : f_l_bands [.list (hv.map enc3), .list (F.map .int)] = .ok (.list (((List.range hv.length).map (bandAt hv F)).map encP)) := by
  obtain ⟨ρ', hf, y3, y4, y5, y6, y7, y8, y9, y10, y11, y12, y13, y14, rfl⟩ := forE_ix (fun (q : T3 × Nat) => PyData.tuple [.int (q.2 : Nat), enc3 q.1]) (h := tgT (tgCons (tgN 3) (tgCons (tgT (tgCons (tgN 4) (tgCons (tgN 5) (tgCons (tgN 6) (tgNil))))) (tgNil)))) (b := g_l_bands_L2) hv.zipIdx
    (fun k ρ => ∃ (y3 y4 y5 y6 y7 y8 y9 y10 y11 y12 y13 y14 : Dt), ρ = [.list (hv.map enc3), .list (F.map .int), .list (((List.range k).map (bandAt hv F)).map encP), y3, y4, y5, y6, y7, y8, y9, y10, y11, y12, y13, y14])
    (ρ := [.list (hv.map enc3), .list (F.map .int), .list [], .none, .none, .none, .none, .none, .none, .none, .none, .none, .none, .none, .none]) ⟨_, _, _, _, _, _, _, _, _, _, _, _, rfl⟩ (by
      rintro k ρ hk ⟨y3, y4, y5, y6, y7, y8, y9, y10, y11, y12, y13, y14, rfl⟩
      rw [List.length_zipIdx] at hk
      rw [List.getElem_zipIdx]
      obtain ⟨ha, hb, hne, h4⟩ := o.ends w (List.getElem_mem hk)
      have i1 : ∀ z7 z8 z9, gIdx (gVar 1) (gVar 4) [.list (hv.map enc3), .list (F.map .int), .list (((List.range k).map (bandAt hv F)).map encP), .int (0 + k : Nat), .int hv[k].1, .int hv[k].2.1, .int hv[k].2.2, z7, z8, z9, y10, y11, y12, y13, y14] = .ok (.int ((F.idxOf hv[k].1 : Nat) : Int)) := fun z7 z8 z9 => idx_ok (ns := F) (k := hv[k].1) rfl rfl ha
      have i2 : ∀ z7 z8 z9, gIdx (gVar 1) (gVar 5) [.list (hv.map enc3), .list (F.map .int), .list (((List.range k).map (bandAt hv F)).map encP), .int (0 + k : Nat), .int hv[k].1, .int hv[k].2.1, .int hv[k].2.2, z7, z8, z9, y10, y11, y12, y13, y14] = .ok (.int ((F.idxOf hv[k].2.1 : Nat) : Int)) := fun z7 z8 z9 => idx_ok (ns := F) (k := hv[k].2.1) rfl rfl hb
      obtain ⟨z10, z11, z12, z13, z14, hlow⟩ := low_loop o w hl hk (.list (((List.range k).map (bandAt hv F)).map encP)) (.int hv[k].1) (.int hv[k].2.1) (.int hv[k].2.2) y10 y11 y12 y13 y14
      have e0 : (0 + k : Nat) = k := by omega
      rw [e0] at i1 i2
      refine ⟨[.list (hv.map enc3), .list (F.map .int), .list (((List.range k).map (bandAt hv F)).map encP), .int (k : Nat), .int hv[k].1, .int hv[k].2.1, .int hv[k].2.2, y7, y8, y9, y10, y11, y12, y13, y14], [.list (hv.map enc3), .list (F.map .int), .list (((List.range (k + 1)).map (bandAt hv F)).map encP), .int (k : Nat), .int hv[k].1, .int hv[k].2.1, .int hv[k].2.2, .int (((item F hv[k]).2.1 : Nat) : Int), .int (((item F hv[k]).1 : Nat) : Int), .int (lo hv F k), z10, z11, z12, z13, z14], by rw [e0]; rfl, .inl ?_, _, _, _, _, _, _, _, _, _, _, _, _, rfl⟩
      unfold g_l_bands_L2
      refine seq_step (set_ok (d := .int (((item F hv[k]).2.1 : Nat) : Int)) ?_) ?_
      · rw [gCB_def, gCons_def, i1, bnd_ok, gCons_def, i2, bnd_ok, gNil_def, bnd_ok, bnd_ok, bnd_ok, hMax2_i, max_if]
        rfl
      dsimp only [List.set]
      refine seq_step (set_ok (d := .int (((item F hv[k]).1 : Nat) : Int)) ?_) ?_
      · rw [gCB_def, gCons_def, i1, bnd_ok, gCons_def, i2, bnd_ok, gNil_def, bnd_ok, bnd_ok, bnd_ok, hMin2_i, min_if]
        rfl
      dsimp only [List.set]
      refine seq_step (set_ok (d := .int 0) rfl) ?_
      dsimp only [List.set]
      refine seq_step hlow ?_
      have hgm : hv.getD k (0, 0, 0) = hv[k] := by rw [List.getD_eq_getElem?_getD, List.getElem?_eq_getElem hk]; rfl
      refine (gApp_l (i := 2) (ds := ((List.range k).map (bandAt hv F)).map encP) (d := encP (bandAt hv F k)) rfl ?_ (by rw [List.length_map, List.length_map, List.length_range]; omega)).trans ?_
      · unfold bandAt encP
        rw [hgm]
        simp only [bnd_ok, gVar_def, gC_def, gOp_def, gUn_def, gNil_def, gCons_def, gIf_def, gTest_def, gNot_def, gAnd_def, gOr_def, gAndV_def, gOrV_def, gNotV_def, gCB_def, asB_b, hAdd_i, hSub_i, hLt_i, hLe_i, hGt_i, hGe_i, hMul_r, hMul_l, hMod_i, hDiv_s, hBand_i, hShr_i, hPow_10_18, hPow_10_27, hPow_10_28, hPow_10_29, hPow_10_30, hEq_i, hNe_i, hLen_l, hLen_t, hMin2_i, hMax2_i, hMin3_i, hInt1_b, hInt1_i, hBits_i, hListOf_l, hListOf_t, hTupOf_l, hTupOf_t, gSeqS_def, gSet_def, gRet_def, gIfS_def, gNext_def, gTup_def, gLst_def, List.getElem?_cons_zero, List.getElem?_cons_succ, List.set_cons_zero, List.set_cons_succ, List.length_cons, List.length_nil, Nat.zero_add, Nat.reduceAdd, Nat.reduceLeDiff, Nat.reduceSub, Nat.reduceMul, if_true, if_false, Bool.false_eq_true, List.replicate_succ, List.replicate_zero, List.cons_append, List.nil_append, tgN, tgT, tgCons, tgNil, Int.reducePow, Int.reduceAdd, Int.reduceSub, Int.reduceMul, decide_true, decide_false, Bool.not_true, Bool.not_false, gChain_def, hIsa_int, hIsa_intb, hIsa_list, hIsa_tuple, gDrop_def]
      · rw [List.range_succ, List.map_append, List.map_append]
        rfl)
  rw [List.length_zipIdx] at hf
  refine fnL_rt ?_
  show g_l_bands [.list (hv.map enc3), .list (F.map .int), .none, .none, .none, .none, .none, .none, .none, .none, .none, .none, .none, .none, .none] = _
  unfold g_l_bands
  refine seq_step (set_ok (d := .list []) (by rfl)) ?_
  dsimp only [List.set]
  refine seq_step (for_ok (ds := hv.zipIdx.map fun (q : T3 × Nat) => PyData.tuple [.int (q.2 : Nat), enc3 q.1]) ?_ hf) (ret_ok rfl)
  refine (enum_ok (es := hv.map enc3) (by rfl)).trans ?_
  rw [enumD_map]
end
end K49
end T_K49D

section T_K49E
set_option linter.all false
set_option maxRecDepth 100000
set_option maxHeartbeats 4000000
/-! K49E: comparisons; mixed rows. -/
namespace K49
open PySem Sim FamA Heav

theorem enc_canLay : ∀ r : List T3, PyData.canLayAll0 (r.map enc3) = true
  | [] => rfl
  | t :: r => by
    rw [List.map_cons]
    unfold PyData.canLayAll0
    rw [enc_canLay r]
    rfl
theorem enc_depth : ∀ r : List T3, PyData.depthAll (r.map enc3) ≤ 1
  | [] => by simp [PyData.depthAll]
  | t :: r => by
    rw [List.map_cons]
    unfold PyData.depthAll
    have := enc_depth r
    have e : (enc3 t).depth = 1 := rfl
    rw [e]
    omega
theorem enc_shaped (r : List T3) : SeqAt.shaped (.list (r.map enc3)) = true := by
  have := enc_depth r
  simp [SeqAt.shaped, PyData.canLay0, PyData.depth, enc_canLay]
  omega
theorem enc_eqv : ∀ r : List T3, PyData.eqvAll (r.map enc3) (r.map enc3) = true
  | [] => rfl
  | t :: r => by
    rw [List.map_cons]
    unfold PyData.eqvAll
    rw [enc_eqv r]
    have e : PyData.eqv (enc3 t) (enc3 t) = true := by simp [enc3, PyData.eqv, PyData.eqvAll]
    rw [e]
    rfl
theorem hNe_enc (r : List T3) : hNe (.list (r.map enc3)) (.list (r.map enc3)) = .ok (.bool false) := by
  unfold hNe
  rw [enc_shaped]
  simp [PyData.eqv, enc_eqv]
theorem hNe_nil (r : List T3) : hNe (.list (r.map enc3)) (.list []) = .ok (.bool (!r.isEmpty)) := by
  have e := enc_shaped []
  rw [List.map_nil] at e
  unfold hNe
  rw [enc_shaped, e]
  cases r with
  | nil => simp [PyData.eqv, PyData.eqvAll]
  | cons t r => simp [PyData.eqv, PyData.eqvAll]
theorem p_canLay : ∀ r : List (Int × Int), PyData.canLayAll0 (r.map encP) = true
  | [] => rfl
  | t :: r => by
    rw [List.map_cons]
    unfold PyData.canLayAll0
    rw [p_canLay r]
    rfl
theorem p_depth : ∀ r : List (Int × Int), PyData.depthAll (r.map encP) ≤ 1
  | [] => by simp [PyData.depthAll]
  | t :: r => by
    rw [List.map_cons]
    unfold PyData.depthAll
    have := p_depth r
    have e : (encP t).depth = 1 := rfl
    rw [e]
    omega
theorem p_shaped (r : List (Int × Int)) : SeqAt.shaped (.list (r.map encP)) = true := by
  have := p_depth r
  simp [SeqAt.shaped, PyData.canLay0, PyData.depth, p_canLay]
  omega
theorem p_eqv : ∀ r : List (Int × Int), PyData.eqvAll (r.map encP) (r.map encP) = true
  | [] => rfl
  | t :: r => by
    rw [List.map_cons]
    unfold PyData.eqvAll
    rw [p_eqv r]
    have e : PyData.eqv (encP t) (encP t) = true := by simp [encP, PyData.eqv, PyData.eqvAll]
    rw [e]
    rfl
theorem hNe_P (r : List (Int × Int)) : hNe (.list (r.map encP)) (.list (r.map encP)) = .ok (.bool false) := by
  unfold hNe
  rw [p_shaped]
  simp [PyData.eqv, p_eqv]
theorem hEq_P (r : List (Int × Int)) : hEq (.list (r.map encP)) (.list (r.map encP)) = .ok (.bool true) := by
  unfold hEq
  rw [p_shaped]
  simp [PyData.eqv, p_eqv]
theorem are_ok (B : List (Int × Int)) (hl : B.length ≤ 1000) : f_l_are [.list (B.map encP), .list (B.map encP)] = .ok (.bool true) := by
  refine fnN_rt ?_
  show g_l_are [.list (B.map encP), .list (B.map encP), .none] = _
  unfold g_l_are
  have hab := hAll_b (B.map fun _ => true)
  rw [show (B.map fun _ => true).all id = true by simp] at hab
  have h1 : gLc (gSeq (gVar 0)) (tgN 2) (gYes) (gUn (hIsa .tuple) (gVar 2)) [.list (B.map encP), .list (B.map encP), .none] = .ok (.list ((B.map fun _ => true).map .bool)) := by
    rw [gLc_map encP (fun _ => true) (fun _ => .bool true) (xs := B) (by rfl) (by omega) fun p hp => ⟨[.list (B.map encP), .list (B.map encP), encP p], rfl, rfl, fun _ => rfl⟩, List.filter_eq_self.mpr (fun _ _ => rfl), List.map_map]
    rfl
  have h2 : gLc (gSeq (gVar 0)) (tgN 2) (gYes) (gAndV (gCallN 1 f_l_whole (gCons (gOp hIx (gVar 2) (gC (.int (0)))) (gNil))) (gCallN 1 f_l_whole (gCons (gOp hIx (gVar 2) (gC (.int (1)))) (gNil)))) [.list (B.map encP), .list (B.map encP), .none] = .ok (.list ((B.map fun _ => true).map .bool)) := by
    rw [gLc_map encP (fun _ => true) (fun _ => .bool true) (xs := B) (by rfl) (by omega) fun p hp => ⟨[.list (B.map encP), .list (B.map encP), encP p], rfl, rfl, fun _ => ?_⟩, List.filter_eq_self.mpr (fun _ _ => rfl), List.map_map]
    · rfl
    · have c1 : gCallN 1 f_l_whole (gCons (gOp hIx (gVar 2) (gC (.int (0)))) (gNil)) [.list (B.map encP), .list (B.map encP), encP p] = .ok (.bool true) := callN_ok (ds := [.int p.1]) rfl rfl rfl
      have c2 : gCallN 1 f_l_whole (gCons (gOp hIx (gVar 2) (gC (.int (1)))) (gNil)) [.list (B.map encP), .list (B.map encP), encP p] = .ok (.bool true) := callN_ok (ds := [.int p.2]) rfl rfl rfl
      rw [gAndV_def, c1, bnd_ok, asB_b, bnd_ok, c2]
      rfl
  have hi : gTest (gUn (hIsa .list) (gVar 0)) [.list (B.map encP), .list (B.map encP), .none] = .ok true := rfl
  refine seq_step ((if_f ?_).trans rfl) ?_
  · rw [gOr_def, gNot_def, hi, bnd_ok, bnd_ok, gNot_def, gTest_def, gCB_def, gCons_def, h1, bnd_ok, gNil_def, bnd_ok, bnd_ok, hab]
    rfl
  · refine ret_ok ?_
    have he : gOp hEq (gVar 0) (gVar 1) [.list (B.map encP), .list (B.map encP), .none] = .ok (.bool true) := by
      rw [gOp_def]
      exact hEq_P B
    rw [gAndV_def, he, bnd_ok, asB_b, bnd_ok, if_pos rfl, gCB_def, gCons_def, h2, bnd_ok, gNil_def, bnd_ok, bnd_ok, hab]
theorem l_heads_fn (B : List (Int × Int)) (N : Int) (hl : B.length ≤ 1000) : f_l_heads [.list (B.map encP), .int N] = .ok (.list ((B.map (hd N)).map .int)) := heads_fn B N hl
/-! mixed rows -/
theorem seqIndex_ok {j : Int} {l : Nat} (h0 : 0 ≤ j) (h1 : j < l) : seqIndex? j l = some j.toNat := by
  unfold seqIndex?
  simp only [if_neg (show ¬ j < 0 by omega)]
  rw [if_pos (by rw [Bool.and_eq_true, decide_eq_true_eq, decide_eq_true_eq]; exact ⟨h0, h1⟩)]
theorem mixed_ok {n : Int} {p : Dt} (hp : PoolOk p) (n1 : 1 ≤ n) (n10 : n ≤ 10) : ∃ M p', f_l_mixed_up [p, .int n] = .ok (.tuple [.list (M.map .int), p']) ∧ Ord n M ∧ PoolOk p' := by
  obtain ⟨ρ', hf, p', lf, M, x4, rfl, hp', hperm, hlen⟩ := forE_ix (fun (j : Nat) => PyData.int (0 + (j : Int))) (h := tgN 4) (b := g_l_mixed_up_L1) (List.range n.toNat)
    (fun i ρ => ∃ (p' : Dt) (lf M : List Int) (x4 : Dt), ρ = [p', .int n, .list (lf.map .int), .list (M.map .int), x4] ∧ PoolOk p' ∧ (lf ++ M).Perm (pl n) ∧ M.length = i)
    (ρ := [p, .int n, .list ((pl n).map .int), .list (([] : List Int).map .int), .none]) ⟨p, pl n, [], .none, rfl, hp, by rw [List.append_nil], rfl⟩ (by
      rintro i ρ hi ⟨p', lf, M, x4, rfl, hp', hperm, hlen⟩
      rw [List.length_range] at hi
      generalize hgj : (0 : Int) + ((List.range n.toNat)[i] : Nat) = jj
      have hll : lf.length + M.length = n.toNat := by
        have := hperm.length_eq
        rw [List.length_append, pl_len] at this
        exact this
      obtain ⟨j, p4, h4, j0, j1, hp4⟩ := tk_ok (i := 0) (gA := xCons (xP (gCB hLen (gCons (gVar 2) (gNil)))) xNil) (ρ := [p', .int n, .list (lf.map .int), .list (M.map .int), .int jj]) (ρ' := [p', .int n, .list (lf.map .int), .list (M.map .int), .int jj]) (size := (lf.length : Int)) (by
        rw [xCons_def, xP_def]
        simp only [bnd_ok, gVar_def, gC_def, gOp_def, gUn_def, gNil_def, gCons_def, gIf_def, gTest_def, gNot_def, gAnd_def, gOr_def, gAndV_def, gOrV_def, gNotV_def, gCB_def, asB_b, hAdd_i, hSub_i, hLt_i, hLe_i, hGt_i, hGe_i, hMul_r, hMul_l, hMod_i, hDiv_s, hBand_i, hShr_i, hPow_10_18, hPow_10_27, hPow_10_28, hPow_10_29, hPow_10_30, hEq_i, hNe_i, hLen_l, hLen_t, hMin2_i, hMax2_i, hMin3_i, hInt1_b, hInt1_i, hBits_i, hListOf_l, hListOf_t, hTupOf_l, hTupOf_t, gSeqS_def, gSet_def, gRet_def, gIfS_def, gNext_def, gTup_def, gLst_def, List.getElem?_cons_zero, List.getElem?_cons_succ, List.set_cons_zero, List.set_cons_succ, List.length_cons, List.length_nil, Nat.zero_add, Nat.reduceAdd, Nat.reduceLeDiff, Nat.reduceSub, Nat.reduceMul, if_true, if_false, Bool.false_eq_true, List.replicate_succ, List.replicate_zero, List.cons_append, List.nil_append, tgN, tgT, tgCons, tgNil, Int.reducePow, Int.reduceAdd, Int.reduceSub, Int.reduceMul, decide_true, decide_false, Bool.not_true, Bool.not_false, gChain_def, hIsa_int, hIsa_intb, hIsa_list, hIsa_tuple, gDrop_def, List.length_map]
        rfl) rfl hp' (by omega) (by omega)
      have h4 : xCallM .la 2 f_l_take 0 (xCons (xP (gCB hLen (gCons (gVar 2) (gNil)))) xNil) [p', .int n, .list (lf.map .int), .list (M.map .int), .int jj] = .ok (.int j, [p4, .int n, .list (lf.map .int), .list (M.map .int), .int jj]) := h4
      have hj : j.toNat < lf.length := by omega
      have hget : (lf.map PyData.int)[j.toNat]? = some (.int lf[j.toNat]) := by rw [List.getElem?_map, List.getElem?_eq_getElem hj]; rfl
      have hpe : (lf[j.toNat] :: lf.eraseIdx j.toNat).Perm lf := by
        have e : lf = lf.take j.toNat ++ lf[j.toNat] :: lf.drop (j.toNat + 1) := by rw [← List.drop_eq_getElem_cons hj, List.take_append_drop]
        rw [List.eraseIdx_eq_take_drop_succ]
        conv => rhs; rw [e]
        exact List.perm_middle.symm
      generalize lf[j.toNat] = t at *
      have hpop : xPop 2 (xCallM .la 2 f_l_take 0 (xCons (xP (gCB hLen (gCons (gVar 2) (gNil)))) (xNil))) [p', .int n, .list (lf.map .int), .list (M.map .int), .int jj]
          = .ok (.int t, [p4, .int n, .list ((lf.eraseIdx j.toNat).map .int), .list (M.map .int), .int jj]) := by
        unfold xPop
        rw [h4, bx_ok]
        have hsi := seqIndex_ok (j := j) (l := (lf.map PyData.int).length) j0 (by rw [List.length_map]; exact j1)
        simp only [List.getElem?_cons_succ, List.getElem?_cons_zero]
        rw [if_pos (by omega)]
        simp only [hsi, hget]
        rw [show (lf.map PyData.int).eraseIdx j.toNat = (lf.eraseIdx j.toNat).map .int by rw [List.eraseIdx_eq_take_drop_succ, List.eraseIdx_eq_take_drop_succ, List.map_append, List.map_take, List.map_drop]]
        rfl
      refine ⟨[p', .int n, .list (lf.map .int), .list (M.map .int), .int jj], [p4, .int n, .list ((lf.eraseIdx j.toNat).map .int), .list ((M ++ [t]).map .int), .int jj], rfl, .inl ?_, p4, lf.eraseIdx j.toNat, M ++ [t], .int jj, rfl, hp4, ?_, by rw [List.length_append, hlen]; rfl⟩
      · unfold g_l_mixed_up_L1
        refine (xapp_ok (ds := M.map .int) hpop rfl (by rw [List.length_map]; omega)).trans ?_
        rw [List.map_append]
        rfl
      · refine List.Perm.trans ?_ hperm
        rw [← List.append_assoc]
        refine List.perm_append_comm.trans ?_
        show (t :: (lf.eraseIdx j.toNat ++ M)).Perm (lf ++ M)
        rw [← List.cons_append]
        exact hpe.append_right M)
  rw [List.length_range] at hlen
  have hlf : lf = [] := by
    have := hperm.length_eq
    rw [List.length_append, pl_len] at this
    exact List.eq_nil_of_length_eq_zero (by omega)
  subst hlf
  rw [List.nil_append] at hperm
  refine ⟨M, p', fnL_rt ?_, ⟨hperm.nodup_iff.mpr (pl_nodup n), fun q => by rw [hperm.mem_iff, mem_pl]⟩, hp'⟩
  show g_l_mixed_up [p, .int n, .none, .none, .none] = _
  unfold g_l_mixed_up
  refine seq_step (set_ok (d := .list ((pl n).map .int)) ?_) ?_
  · rw [lsI_ok (ds := (pl n).map .int) (by rw [rng1_ok (j := n) (by rfl) (by omega) (by omega), rangeD_pl]) (by rw [List.length_map, pl_len]; omega)]
  dsimp only [List.set]
  refine seq_step (set_ok (d := .list []) (by rfl)) ?_
  dsimp only [List.set]
  refine seq_step (for_ok (ds := (List.range n.toNat).map fun (j : Nat) => PyData.int (0 + (j : Int))) ?_ hf) ?_
  · rw [rng1_ok (j := n) (by rfl) (by omega) (by omega)]
    unfold rangeD
    rw [Int.sub_zero]
  · exact xretO_ok rfl rfl hp'.argD
theorem all_whole {gi : List Dt → O (List Dt)} {ρ : List Dt} {i : Nat} (F : List Int) (hl : F.length ≤ 1000) (h1 : gi ρ = .ok (F.map .int)) (hi : i < ρ.length) : gTest (gCB hAll (gCons (gLc gi (tgN i) (gYes) (gCallN 1 f_l_whole (gCons (gVar i) (gNil)))) (gNil))) ρ = .ok true := by
  have hlc : gLc gi (tgN i) (gYes) (gCallN 1 f_l_whole (gCons (gVar i) (gNil))) ρ = .ok (.list ((F.map fun _ => true).map .bool)) := by
    rw [gLc_map PyData.int (fun _ => true) (fun _ => .bool true) (xs := F) h1 (by omega) fun z hz => ⟨ρ.set i (.int z), rfl, rfl, fun _ => callN_ok (ds := [.int z]) (by
      rw [gCons_def, gVar_def, List.getElem?_set_self hi]
      rfl) rfl rfl⟩, List.filter_eq_self.mpr (fun _ _ => rfl), List.map_map]
    rfl
  have hab := hAll_b (F.map fun _ => true)
  rw [show (F.map fun _ => true).all id = true by simp] at hab
  rw [gTest_def, gCB_def, gCons_def, hlc, bnd_ok, gNil_def, bnd_ok, bnd_ok, hab]
  rfl
end K49
end T_K49E

section T_K49Q
set_option linter.all false
set_option maxRecDepth 100000
set_option maxHeartbeats 4000000
/-! K49Q: the law. -/
namespace K49
open PySem Sim FamA Heav

theorem HOk.sub {n : Int} {hv hw : List T3} (h : HOk n hv) (hs : ∀ t ∈ hw, t ∈ hv) : HOk n hw := ⟨fun t ht => h.ok t (hs t ht)⟩
theorem drop_last_sl (hv : List T3) (h : hv ≠ []) : hSl (.list (hv.map enc3)) none (some (-1 : Int)) = .ok (.list (hv.dropLast.map enc3)) := by
  have hl := List.length_pos_iff.mpr h
  unfold hSl cutD
  simp only
  have e1 : HT.sIx (hv.map enc3).length 0 none = 0 := rfl
  have e2 : HT.sIx (hv.map enc3).length (hv.map enc3).length (some (-1)) = hv.length - 1 := by
    unfold HT.sIx
    simp only
    rw [if_pos (by omega), List.length_map]
    omega
  rw [e1, e2, List.drop_zero, Nat.sub_zero, ← List.map_take, List.dropLast_eq_take]
theorem body_ok (ns : List Int) {n at' : Int} (n1 : 1 ≤ n) (n10 : n ≤ 10) (a0 : 0 ≤ at') (a1 : at' < 100) (d1 d4 d5 d6 d7 d8 d9 d10 d11 d12 d13 d14 : Dt) :
    ∃ e1 e4 e5 e6 e7 e8 e9 e10 e11 e12 e13 e14, g_law_L1 [.list (ns.map .int), d1, .int n, .int at', d4, d5, d6, d7, d8, d9, d10, d11, d12, d13, d14] = .ok (.nx [.list (ns.map .int), e1, .int n, .int at', e4, e5, e6, e7, e8, e9, e10, e11, e12, e13, e14]) := by
  generalize hsc : PyData.list (ns.map .int) = sc
  obtain ⟨p0, h0, hp0⟩ := pool_ok ns (k := at') a0 (by omega)
  rw [hsc] at h0
  obtain ⟨j, p1, h1, j0, j1, hp1⟩ := tk_ok (i := 1) (gA := xCons (xP (gC (.int (4)))) xNil) (ρ := [sc, p0, .int n, .int at', d4, d5, d6, d7, d8, d9, d10, d11, d12, d13, d14]) rfl rfl hp0 (by omega : (0 : Int) < 4) (by omega)
  have h1 : xCallM .la 2 f_l_take 1 (xCons (xP (gC (.int (4)))) xNil) [sc, p0, .int n, .int at', d4, d5, d6, d7, d8, d9, d10, d11, d12, d13, d14] = .ok (.int j, [sc, p1, .int n, .int at', d4, d5, d6, d7, d8, d9, d10, d11, d12, d13, d14]) := h1
  obtain ⟨most, hmost, mo0, mo1⟩ := ix_list (xs := [12, 12, 12, 40]) (lo := 12) (hi := 40) j0 j1 (by decide)
  obtain ⟨hv, p2, h2, hok, hlen, hp2⟩ := heavy_ok hp1 n1 n10 (by omega) (show most ≤ 40 by omega)
  have hl40 : hv.length ≤ 40 := by omega
  have w := hok.web
  have c0 : gCallN 2 f_l_pool (gCons (gVar 0) (gCons (gVar 3) (gNil))) [sc, d1, .int n, .int at', d4, d5, d6, d7, d8, d9, d10, d11, d12, d13, d14] = .ok p0 := callN_ok (ds := [sc, .int at']) rfl rfl h0
  have c2 : xCallM .la 3 f_l_heavy 1 (xCons (xP (gVar 2)) (xCons (xOp hIx (xP (gLst (gCons (gC (.int (12))) (gCons (gC (.int (12))) (gCons (gC (.int (12))) (gCons (gC (.int (40))) (gNil))))))) (xCallM .la 2 f_l_take 1 (xCons (xP (gC (.int (4)))) (xNil)))) (xNil))) [sc, p0, .int n, .int at', d4, d5, d6, d7, d8, d9, d10, d11, d12, d13, d14] = .ok (.list (hv.map enc3), [sc, p2, .int n, .int at', d4, d5, d6, d7, d8, d9, d10, d11, d12, d13, d14]) := by
    refine xcallM_ok (ds := [.int n, .int most]) (ρ' := [sc, p1, .int n, .int at', d4, d5, d6, d7, d8, d9, d10, d11, d12, d13, d14]) ?_ rfl rfl hp1.arg h2 hp2.arg
    have e : gLst (gCons (gC (.int (12))) (gCons (gC (.int (12))) (gCons (gC (.int (12))) (gCons (gC (.int (40))) (gNil))))) [sc, p0, .int n, .int at', d4, d5, d6, d7, d8, d9, d10, d11, d12, d13, d14] = .ok (.list ([12, 12, 12, 40].map .int)) := rfl
    rw [xCons_def, xP_def, gVar_def]
    show bnd (bnd (O.ok (PyData.int n)) _) _ = _
    rw [bnd_ok, bnd_ok, xCons_def, xOp_def, xP_def, e, bnd_ok, bnd_ok, h1, bnd_ok, hmost]
    rfl
  obtain ⟨f, p3, h3, f0, f1, hp3⟩ := tk_ok (i := 1) (gA := xCons (xP (gVar 2)) xNil) (ρ := [sc, p2, .int n, .int at', .list (hv.map enc3), d5, d6, d7, d8, d9, d10, d11, d12, d13, d14]) rfl rfl hp2 (size := n) (by omega) (by omega)
  have h3 : xCallM .la 2 f_l_take 1 (xCons (xP (gVar 2)) xNil) [sc, p2, .int n, .int at', .list (hv.map enc3), d5, d6, d7, d8, d9, d10, d11, d12, d13, d14] = .ok (.int f, [sc, p3, .int n, .int at', .list (hv.map enc3), d5, d6, d7, d8, d9, d10, d11, d12, d13, d14]) := h3
  -- the orders
  have hord : ∀ (hw : List T3) (g : Int), HOk n hw → hw.length ≤ 40 → 0 ≤ g → g < n → f_order [.int n, .list (hw.map enc3), .int g] = .ok (.list ((run n hw g n.toNat []).map .int)) ∧ Ord n (run n hw g n.toNat []) := fun hw g ho hl g0 g1 => by
    obtain ⟨F, hF, o, rfl⟩ := order_ok ho hl n1 n10 g0 g1
    exact ⟨hF, o⟩
  have hlord : ∀ (hw : List T3) (g : Int), HOk n hw → hw.length ≤ 40 → 0 ≤ g → g < n → f_l_order [.int n, .list (hw.map enc3), .int g] = .ok (.list ((run n hw g n.toNat []).map .int)) := fun hw g ho hl g0 g1 => l_order_ok ho (by omega) n1 n10 g0 g1
  obtain ⟨hF, oF⟩ := hord hv f hok hl40 f0 f1
  have hlF := hlord hv f hok hl40 f0 f1
  obtain ⟨hF0, _⟩ := hord hv 0 hok hl40 (by omega) (by omega)
  have hlF0 := hlord hv 0 hok hl40 (by omega) (by omega)
  have olen : ∀ {F : List Int}, Ord n F → F.length = n.toNat := fun {F} o => by
    have h : F.Perm (pl n) := (List.perm_ext_iff_of_nodup o.nd (pl_nodup n)).mpr fun q => by rw [o.all, mem_pl]
    rw [h.length_eq, pl_len]
  have hFlen := olen oF
  have hF0e : run n hv 0 n.toNat [] = run n hv 0 n.toNat [] := rfl
  generalize run n hv f n.toNat [] = F at *
  generalize run n hv 0 n.toNat [] = F0 at *
  have c6 : gCallN 3 f_l_order (gCons (gVar 2) (gCons (gVar 4) (gCons (gVar 5) (gNil)))) [sc, p3, .int n, .int at', .list (hv.map enc3), .int f, d6, d7, d8, d9, d10, d11, d12, d13, d14] = .ok (.list (F.map .int)) := callN_ok (ds := [.int n, .list (hv.map enc3), .int f]) rfl rfl hlF
  have c8 : gCallN 3 f_order (gCons (gVar 2) (gCons (gVar 7) (gCons (gVar 5) (gNil)))) [sc, p3, .int n, .int at', .list (hv.map enc3), .int f, .list (F.map .int), .list (hv.map enc3), d8, d9, d10, d11, d12, d13, d14] = .ok (.list (F.map .int)) := callN_ok (ds := [.int n, .list (hv.map enc3), .int f]) rfl rfl hF
  have t1 : gOr (gTest (gOp hNe (gVar 8) (gVar 6))) (gNot (gTest (gCB hAll (gCons (gLc (gSeq (gVar 8)) (tgN 9) (gYes) (gCallN 1 f_l_whole (gCons (gVar 9) (gNil)))) (gNil))))) [sc, p3, .int n, .int at', .list (hv.map enc3), .int f, .list (F.map .int), .list (hv.map enc3), .list (F.map .int), d9, d10, d11, d12, d13, d14] = .ok false := by
    have q : gTest (gOp hNe (gVar 8) (gVar 6)) [sc, p3, .int n, .int at', .list (hv.map enc3), .int f, .list (F.map .int), .list (hv.map enc3), .list (F.map .int), d9, d10, d11, d12, d13, d14] = .ok false := by
      rw [gTest_def, gOp_def]
      show bnd (hNe (.list (F.map .int)) (.list (F.map .int))) asB = _
      rw [hNe_ints, decide_eq_true rfl]
      rfl
    have q2 := all_whole (gi := gSeq (gVar 8)) (ρ := [sc, p3, .int n, .int at', .list (hv.map enc3), .int f, .list (F.map .int), .list (hv.map enc3), .list (F.map .int), d9, d10, d11, d12, d13, d14]) (i := 9) F (by omega) (by rfl) (by simp)
    rw [gOr_def, q, bnd_ok, if_neg Bool.false_ne_true, gNot_def, q2]
    rfl
  have t2 : gTest (gOp hNe (gCallDf 3 f_order [.int (0)] (gCons (gVar 2) (gCons (gVar 7) (gNil)))) (gCallN 3 f_l_order (gCons (gVar 2) (gCons (gVar 4) (gCons (gC (.int (0))) (gNil)))))) [sc, p3, .int n, .int at', .list (hv.map enc3), .int f, .list (F.map .int), .list (hv.map enc3), .list (F.map .int), d9, d10, d11, d12, d13, d14] = .ok false := by
    have q1 : gCallDf 3 f_order [.int (0)] (gCons (gVar 2) (gCons (gVar 7) (gNil))) [sc, p3, .int n, .int at', .list (hv.map enc3), .int f, .list (F.map .int), .list (hv.map enc3), .list (F.map .int), d9, d10, d11, d12, d13, d14] = .ok (.list (F0.map .int)) := callDf_ok (ds := [.int n, .list (hv.map enc3)]) rfl rfl hF0
    have q2 : gCallN 3 f_l_order (gCons (gVar 2) (gCons (gVar 4) (gCons (gC (.int (0))) (gNil)))) [sc, p3, .int n, .int at', .list (hv.map enc3), .int f, .list (F.map .int), .list (hv.map enc3), .list (F.map .int), d9, d10, d11, d12, d13, d14] = .ok (.list (F0.map .int)) := callN_ok (ds := [.int n, .list (hv.map enc3), .int 0]) rfl rfl hlF0
    rw [gTest_def, gOp_def, q1, bnd_ok, q2, bnd_ok, hNe_ints, decide_eq_true rfl]
    rfl
  -- a mixed row or not
  obtain ⟨u, p4, h4, u0, u1, hp4⟩ := tk_ok (i := 1) (gA := xCons (xP (gC (.int (3)))) xNil) (ρ := [sc, p3, .int n, .int at', .list (hv.map enc3), .int f, .list (F.map .int), .list (hv.map enc3), .list (F.map .int), d9, d10, d11, d12, d13, d14]) rfl rfl hp3 (by omega : (0 : Int) < 3) (by omega)
  have h4 : xCallM .la 2 f_l_take 1 (xCons (xP (gC (.int (3)))) xNil) [sc, p3, .int n, .int at', .list (hv.map enc3), .int f, .list (F.map .int), .list (hv.map enc3), .list (F.map .int), d9, d10, d11, d12, d13, d14] = .ok (.int u, [sc, p4, .int n, .int at', .list (hv.map enc3), .int f, .list (F.map .int), .list (hv.map enc3), .list (F.map .int), d9, d10, d11, d12, d13, d14]) := h4
  obtain ⟨R, p5, hmix, oR, hp5⟩ : ∃ R p5, xIfS (xTest (xOp hEq (xCallM .la 2 f_l_take 1 (xCons (xP (gC (.int (3)))) (xNil))) (xP (gC (.int (0)))))) (xSet 6 (xCallM .la 2 f_l_mixed_up 1 (xCons (xP (gVar 2)) (xNil)))) (gNext) [sc, p3, .int n, .int at', .list (hv.map enc3), .int f, .list (F.map .int), .list (hv.map enc3), .list (F.map .int), d9, d10, d11, d12, d13, d14]
      = .ok (.nx [sc, p5, .int n, .int at', .list (hv.map enc3), .int f, .list (R.map .int), .list (hv.map enc3), .list (F.map .int), d9, d10, d11, d12, d13, d14]) ∧ Ord n R ∧ PoolOk p5 := by
    have ht : xTest (xOp hEq (xCallM .la 2 f_l_take 1 (xCons (xP (gC (.int (3)))) (xNil))) (xP (gC (.int (0))))) [sc, p3, .int n, .int at', .list (hv.map enc3), .int f, .list (F.map .int), .list (hv.map enc3), .list (F.map .int), d9, d10, d11, d12, d13, d14] = .ok (u == 0, [sc, p4, .int n, .int at', .list (hv.map enc3), .int f, .list (F.map .int), .list (hv.map enc3), .list (F.map .int), d9, d10, d11, d12, d13, d14]) := by
      rw [xTest_def, xOp_def, h4, bnd_ok, xP_def, gC_def, bnd_ok, bnd_ok]
      simp only [hEq_i, bnd_ok, asB_b]
    cases e : u == 0 with
    | true =>
      obtain ⟨M, p5, hM, oM, hp5⟩ := mixed_ok hp4 n1 n10
      exact ⟨M, p5, (xIf_t (e ▸ ht)).trans (xset_ok (ρ' := [sc, p5, .int n, .int at', .list (hv.map enc3), .int f, .list (F.map .int), .list (hv.map enc3), .list (F.map .int), d9, d10, d11, d12, d13, d14]) (xcallM_ok (ds := [.int n]) (ρ' := [sc, p4, .int n, .int at', .list (hv.map enc3), .int f, .list (F.map .int), .list (hv.map enc3), .list (F.map .int), d9, d10, d11, d12, d13, d14]) rfl rfl rfl hp4.arg hM hp5.arg)), oM, hp5⟩
    | false => exact ⟨F, p4, (xIf_f (e ▸ ht)).trans rfl, oF, hp4⟩
  have hRlen := olen oR
  have hban : ∀ (hw : List T3), HOk n hw → hw.length ≤ 40 → f_bands [.int n, .list (hw.map enc3), .list (R.map .int)] = .ok (.list (((List.range hw.length).map (bandAt hw R)).map encP)) := fun hw ho hl => bands_ok oR ho hl n1 n10 hRlen
  have hlban : ∀ (hw : List T3), HOk n hw → hw.length ≤ 40 → f_l_bands [.list (hw.map enc3), .list (R.map .int)] = .ok (.list (((List.range hw.length).map (bandAt hw R)).map encP)) := fun hw ho hl => l_bands_ok oR ho.web (by omega)
  have hB := hban hv hok hl40
  have hlB := hlban hv hok hl40
  have hBl : ((List.range hv.length).map (bandAt hv R)).length ≤ 1000 := by rw [List.length_map, List.length_range]; omega
  generalize (List.range hv.length).map (bandAt hv R) = B at *
  have c10 : gCallN 2 f_l_bands (gCons (gVar 4) (gCons (gVar 6) (gNil))) [sc, p5, .int n, .int at', .list (hv.map enc3), .int f, .list (R.map .int), .list (hv.map enc3), .list (F.map .int), d9, d10, d11, d12, d13, d14] = .ok (.list (B.map encP)) := callN_ok (ds := [.list (hv.map enc3), .list (R.map .int)]) rfl rfl hlB
  have c11 : gCallN 3 f_bands (gCons (gVar 2) (gCons (gVar 7) (gCons (gCB (one hListOf) (gCons (gVar 6) gNil)) (gNil)))) [sc, p5, .int n, .int at', .list (hv.map enc3), .int f, .list (R.map .int), .list (hv.map enc3), .list (F.map .int), d9, .list (B.map encP), d11, d12, d13, d14] = .ok (.list (B.map encP)) := callN_ok (ds := [.int n, .list (hv.map enc3), .list (R.map .int)]) (by rfl) rfl hB
  have t3 : gNot (gTest (gCallN 2 f_l_are (gCons (gVar 11) (gCons (gVar 10) (gNil))))) [sc, p5, .int n, .int at', .list (hv.map enc3), .int f, .list (R.map .int), .list (hv.map enc3), .list (F.map .int), d9, .list (B.map encP), .list (B.map encP), d12, d13, d14] = .ok false := by
    have q : gCallN 2 f_l_are (gCons (gVar 11) (gCons (gVar 10) (gNil))) [sc, p5, .int n, .int at', .list (hv.map enc3), .int f, .list (R.map .int), .list (hv.map enc3), .list (F.map .int), d9, .list (B.map encP), .list (B.map encP), d12, d13, d14] = .ok (.bool true) := callN_ok (ds := [.list (B.map encP), .list (B.map encP)]) rfl rfl (are_ok B hBl)
    rw [gNot_def, gTest_def, q]
    rfl
  -- a number
  obtain ⟨v, p6, h6, v0, v1, hp6⟩ := tk_ok (i := 1) (gA := xCons (xP (gC (.int (3)))) xNil) (ρ := [sc, p5, .int n, .int at', .list (hv.map enc3), .int f, .list (R.map .int), .list (hv.map enc3), .list (F.map .int), d9, .list (B.map encP), .list (B.map encP), d12, d13, d14]) rfl rfl hp5 (by omega : (0 : Int) < 3) (by omega)
  have h6 : xCallM .la 2 f_l_take 1 (xCons (xP (gC (.int (3)))) xNil) [sc, p5, .int n, .int at', .list (hv.map enc3), .int f, .list (R.map .int), .list (hv.map enc3), .list (F.map .int), d9, .list (B.map encP), .list (B.map encP), d12, d13, d14] = .ok (.int v, [sc, p6, .int n, .int at', .list (hv.map enc3), .int f, .list (R.map .int), .list (hv.map enc3), .list (F.map .int), d9, .list (B.map encP), .list (B.map encP), d12, d13, d14]) := h6
  have hp32 : hPow (.int 10) (.int 32) = .ok (.int 100000000000000000000000000000000) := by
    show (if cPow 10 32 then O.ok (PyData.int ((10 : Int) ^ (32 : Int).toNat)) else .bad) = _
    rw [if_pos (by decide)]
    rfl
  obtain ⟨sz, hsz, sz0, sz1⟩ := ix_list (xs := [4, 20, 100000000000000000000000000000000]) (lo := 4) (hi := 100000000000000000000000000000000) v0 v1 (by decide)
  obtain ⟨N, p7, h7, _, _, hp7⟩ := tk_ok (i := 1) (gA := xCons (xOp hIx (xP (gLst (gCons (gC (.int (4))) (gCons (gC (.int (20))) (gCons (gOp hPow (gC (.int (10))) (gC (.int (32)))) (gNil)))))) (xCallM .la 2 f_l_take 1 (xCons (xP (gC (.int (3)))) (xNil)))) xNil) (ρ := [sc, p5, .int n, .int at', .list (hv.map enc3), .int f, .list (R.map .int), .list (hv.map enc3), .list (F.map .int), d9, .list (B.map encP), .list (B.map encP), d12, d13, d14]) (ρ' := [sc, p6, .int n, .int at', .list (hv.map enc3), .int f, .list (R.map .int), .list (hv.map enc3), .list (F.map .int), d9, .list (B.map encP), .list (B.map encP), d12, d13, d14]) (size := sz) (by
    have e : gLst (gCons (gC (.int (4))) (gCons (gC (.int (20))) (gCons (gOp hPow (gC (.int (10))) (gC (.int (32)))) (gNil)))) [sc, p5, .int n, .int at', .list (hv.map enc3), .int f, .list (R.map .int), .list (hv.map enc3), .list (F.map .int), d9, .list (B.map encP), .list (B.map encP), d12, d13, d14] = .ok (.list ([4, 20, 100000000000000000000000000000000].map .int)) := by
      simp only [gLst_def, gCons_def, gNil_def, gC_def, gOp_def, bnd_ok, hp32]
      rfl
    rw [xCons_def, xOp_def, xP_def, e, bnd_ok, bnd_ok, h6, bnd_ok, hsz]
    rfl) rfl hp6 (by omega) (by omega)
  have hH := heads_fn B N hBl
  have hlH := l_heads_fn B N hBl
  have hHl : (B.map (hd N)).length ≤ 1000 := by rw [List.length_map]; exact hBl
  generalize B.map (hd N) = W at *
  have c13 : gCallN 2 f_heads (gCons (gCB (one hListOf) (gCons (gVar 10) gNil)) (gCons (gVar 12) (gNil))) [sc, p7, .int n, .int at', .list (hv.map enc3), .int f, .list (R.map .int), .list (hv.map enc3), .list (F.map .int), d9, .list (B.map encP), .list (B.map encP), .int N, d13, d14] = .ok (.list (W.map .int)) := callN_ok (ds := [.list (B.map encP), .int N]) (by rfl) rfl hH
  have t4 : gOr (gTest (gOp hNe (gVar 13) (gCallN 2 f_l_heads (gCons (gVar 10) (gCons (gVar 12) (gNil)))))) (gNot (gTest (gCB hAll (gCons (gLc (gSeq (gVar 13)) (tgN 14) (gYes) (gCallN 1 f_l_whole (gCons (gVar 14) (gNil)))) (gNil))))) [sc, p7, .int n, .int at', .list (hv.map enc3), .int f, .list (R.map .int), .list (hv.map enc3), .list (F.map .int), d9, .list (B.map encP), .list (B.map encP), .int N, .list (W.map .int), d14] = .ok false := by
    have q1 : gCallN 2 f_l_heads (gCons (gVar 10) (gCons (gVar 12) (gNil))) [sc, p7, .int n, .int at', .list (hv.map enc3), .int f, .list (R.map .int), .list (hv.map enc3), .list (F.map .int), d9, .list (B.map encP), .list (B.map encP), .int N, .list (W.map .int), d14] = .ok (.list (W.map .int)) := callN_ok (ds := [.list (B.map encP), .int N]) rfl rfl hlH
    have q : gTest (gOp hNe (gVar 13) (gCallN 2 f_l_heads (gCons (gVar 10) (gCons (gVar 12) (gNil))))) [sc, p7, .int n, .int at', .list (hv.map enc3), .int f, .list (R.map .int), .list (hv.map enc3), .list (F.map .int), d9, .list (B.map encP), .list (B.map encP), .int N, .list (W.map .int), d14] = .ok false := by
      rw [gTest_def, gOp_def, q1]
      show bnd (hNe (.list (W.map .int)) (.list (W.map .int))) asB = _
      rw [hNe_ints, decide_eq_true rfl]
      rfl
    have q2 := all_whole (gi := gSeq (gVar 13)) (ρ := [sc, p7, .int n, .int at', .list (hv.map enc3), .int f, .list (R.map .int), .list (hv.map enc3), .list (F.map .int), d9, .list (B.map encP), .list (B.map encP), .int N, .list (W.map .int), d14]) (i := 14) W hHl (by rfl) (by simp)
    rw [gOr_def, q, bnd_ok, if_neg Bool.false_ne_true, gNot_def, q2]
    rfl
  have t5 : gOr (gTest (gOp hNe (gCallN 3 f_order (gCons (gVar 2) (gCons (gVar 7) (gCons (gVar 5) (gNil))))) (gCallN 3 f_l_order (gCons (gVar 2) (gCons (gVar 4) (gCons (gVar 5) (gNil))))))) (gTest (gOp hNe (gCallN 3 f_bands (gCons (gVar 2) (gCons (gVar 7) (gCons (gCB (one hListOf) (gCons (gVar 6) gNil)) (gNil))))) (gVar 10))) [sc, p7, .int n, .int at', .list (hv.map enc3), .int f, .list (R.map .int), .list (hv.map enc3), .list (F.map .int).reverse, d9, .list (B.map encP), .list [], .int N, .list (W.map .int ++ [.int 7]), d14] = .ok false := by
    have q1 : gCallN 3 f_order (gCons (gVar 2) (gCons (gVar 7) (gCons (gVar 5) (gNil)))) [sc, p7, .int n, .int at', .list (hv.map enc3), .int f, .list (R.map .int), .list (hv.map enc3), .list (F.map .int).reverse, d9, .list (B.map encP), .list [], .int N, .list (W.map .int ++ [.int 7]), d14] = .ok (.list (F.map .int)) := callN_ok (ds := [.int n, .list (hv.map enc3), .int f]) rfl rfl hF
    have q2 : gCallN 3 f_l_order (gCons (gVar 2) (gCons (gVar 4) (gCons (gVar 5) (gNil)))) [sc, p7, .int n, .int at', .list (hv.map enc3), .int f, .list (R.map .int), .list (hv.map enc3), .list (F.map .int).reverse, d9, .list (B.map encP), .list [], .int N, .list (W.map .int ++ [.int 7]), d14] = .ok (.list (F.map .int)) := callN_ok (ds := [.int n, .list (hv.map enc3), .int f]) rfl rfl hlF
    have q3 : gCallN 3 f_bands (gCons (gVar 2) (gCons (gVar 7) (gCons (gCB (one hListOf) (gCons (gVar 6) gNil)) (gNil)))) [sc, p7, .int n, .int at', .list (hv.map enc3), .int f, .list (R.map .int), .list (hv.map enc3), .list (F.map .int).reverse, d9, .list (B.map encP), .list [], .int N, .list (W.map .int ++ [.int 7]), d14] = .ok (.list (B.map encP)) := callN_ok (ds := [.int n, .list (hv.map enc3), .list (R.map .int)]) (by rfl) rfl hB
    rw [gOr_def, gTest_def, gOp_def, q1, bnd_ok, q2, bnd_ok, hNe_ints, decide_eq_true rfl, Bool.not_true, bnd_ok, asB_b, bnd_ok, if_neg Bool.false_ne_true, gTest_def, gOp_def, q3]
    show bnd (hNe (.list (B.map encP)) (.list (B.map encP))) asB = _
    rw [hNe_P]
    rfl
  have t6 : gOr (gTest (gOp hNe (gCallN 2 f_heads (gCons (gCB (one hListOf) (gCons (gVar 10) gNil)) (gCons (gVar 12) (gNil)))) (gCallN 2 f_l_heads (gCons (gVar 10) (gCons (gVar 12) (gNil)))))) (gTest (gOp hNe (gVar 7) (gVar 4))) [sc, p7, .int n, .int at', .list (hv.map enc3), .int f, .list (R.map .int), .list (hv.map enc3), .list (F.map .int).reverse, d9, .list (B.map encP), .list [], .int N, .list (W.map .int ++ [.int 7]), d14] = .ok false := by
    have q1 : gCallN 2 f_heads (gCons (gCB (one hListOf) (gCons (gVar 10) gNil)) (gCons (gVar 12) (gNil))) [sc, p7, .int n, .int at', .list (hv.map enc3), .int f, .list (R.map .int), .list (hv.map enc3), .list (F.map .int).reverse, d9, .list (B.map encP), .list [], .int N, .list (W.map .int ++ [.int 7]), d14] = .ok (.list (W.map .int)) := callN_ok (ds := [.list (B.map encP), .int N]) (by rfl) rfl hH
    have q2 : gCallN 2 f_l_heads (gCons (gVar 10) (gCons (gVar 12) (gNil))) [sc, p7, .int n, .int at', .list (hv.map enc3), .int f, .list (R.map .int), .list (hv.map enc3), .list (F.map .int).reverse, d9, .list (B.map encP), .list [], .int N, .list (W.map .int ++ [.int 7]), d14] = .ok (.list (W.map .int)) := callN_ok (ds := [.list (B.map encP), .int N]) rfl rfl hlH
    rw [gOr_def, gTest_def, gOp_def, q1, bnd_ok, q2, bnd_ok, hNe_ints, decide_eq_true rfl, Bool.not_true, bnd_ok, asB_b, bnd_ok, if_neg Bool.false_ne_true, gTest_def, gOp_def]
    show bnd (hNe (.list (hv.map enc3)) (.list (hv.map enc3))) asB = _
    rw [hNe_enc]
    rfl
  have pre : ∀ z : Gs, g_law_L1 = g_law_L1 → gSeqS (gSet 1 (gCallN 2 f_l_pool (gCons (gVar 0) (gCons (gVar 3) (gNil))))) (gSeqS (xSet 4 (xCallM .la 3 f_l_heavy 1 (xCons (xP (gVar 2)) (xCons (xOp hIx (xP (gLst (gCons (gC (.int (12))) (gCons (gC (.int (12))) (gCons (gC (.int (12))) (gCons (gC (.int (40))) (gNil))))))) (xCallM .la 2 f_l_take 1 (xCons (xP (gC (.int (4)))) (xNil)))) (xNil))))) (gSeqS (xSet 5 (xCallM .la 2 f_l_take 1 (xCons (xP (gVar 2)) (xNil)))) z)) [sc, d1, .int n, .int at', d4, d5, d6, d7, d8, d9, d10, d11, d12, d13, d14]
      = z [sc, p3, .int n, .int at', .list (hv.map enc3), .int f, d6, d7, d8, d9, d10, d11, d12, d13, d14] := fun z _ => by
    refine seq_step (set_ok c0) ?_
    dsimp only [List.set]
    refine seq_step (xset_ok c2) ?_
    dsimp only [List.set]
    exact seq_step (xset_ok h3) rfl
  have mid : ∀ z : Gs, gSeqS (gRvS 8) (gSeqS (gClr 11) (gSeqS (gApp 13 (gC (.int (7)))) z)) [sc, p7, .int n, .int at', .list (hv.map enc3), .int f, .list (R.map .int), .list (hv.map enc3), .list (F.map .int), d9, .list (B.map encP), .list (B.map encP), .int N, .list (W.map .int), d14]
      = z [sc, p7, .int n, .int at', .list (hv.map enc3), .int f, .list (R.map .int), .list (hv.map enc3), .list (F.map .int).reverse, d9, .list (B.map encP), .list [], .int N, .list (W.map .int ++ [.int 7]), d14] := fun z => by
    refine seq_step (ρ' := [sc, p7, .int n, .int at', .list (hv.map enc3), .int f, .list (R.map .int), .list (hv.map enc3), .list (F.map .int).reverse, d9, .list (B.map encP), .list (B.map encP), .int N, .list (W.map .int), d14]) (by rfl) ?_
    refine seq_step (ρ' := [sc, p7, .int n, .int at', .list (hv.map enc3), .int f, .list (R.map .int), .list (hv.map enc3), .list (F.map .int).reverse, d9, .list (B.map encP), .list [], .int N, .list (W.map .int), d14]) (by rfl) ?_
    refine seq_step (gApp_l (i := 13) (ds := W.map .int) (d := .int 7) rfl (by rfl) (by rw [List.length_map]; omega)) ?_
    rfl
  have hL : ∀ ρ, gLst gNil ρ = .ok (.list []) := gLst_nil
  by_cases c : hv = []
  · refine ⟨p7, .list (hv.map enc3), .int f, .list (R.map .int), .list (hv.map enc3), .list (F.map .int).reverse, d9, .list (B.map encP), .list [], .int N, .list (W.map .int ++ [.int 7]), d14, ?_⟩
    have t7 : gTest (gOp hNe (gVar 4) (gLst (gNil))) [sc, p7, .int n, .int at', .list (hv.map enc3), .int f, .list (R.map .int), .list (hv.map enc3), .list (F.map .int).reverse, d9, .list (B.map encP), .list [], .int N, .list (W.map .int ++ [.int 7]), d14] = .ok false := by
      rw [gTest_def, gOp_def, hL]
      show bnd (hNe (.list (hv.map enc3)) (.list [])) asB = _
      rw [hNe_nil, c]
      rfl
    unfold g_law_L1
    refine (pre _ rfl).trans ?_
    refine seq_step (set_ok c6) ?_
    dsimp only [List.set]
    refine seq_step (set_ok (d := .list (hv.map enc3)) (by rfl)) ?_
    dsimp only [List.set]
    refine seq_step (set_ok c8) ?_
    dsimp only [List.set]
    refine seq_step ((if_f t1).trans rfl) ?_
    refine seq_step ((if_f t2).trans rfl) ?_
    refine seq_step hmix ?_
    refine seq_step (set_ok c10) ?_
    dsimp only [List.set]
    refine seq_step (set_ok c11) ?_
    dsimp only [List.set]
    refine seq_step ((if_f t3).trans rfl) ?_
    refine seq_step (xset_ok h7) ?_
    dsimp only [List.set]
    refine seq_step (set_ok c13) ?_
    dsimp only [List.set]
    refine seq_step ((if_f t4).trans rfl) ?_
    refine (mid _).trans ?_
    refine seq_step ((if_f t5).trans rfl) ?_
    refine seq_step ((if_f t6).trans rfl) ?_
    exact (if_f t7).trans rfl
  · have hdl : ∀ t ∈ hv.dropLast, t ∈ hv := fun t ht => List.dropLast_subset hv ht
    have hok' := hok.sub hdl
    have hl' : hv.dropLast.length ≤ 40 := by rw [List.length_dropLast]; omega
    obtain ⟨hD, _⟩ := hord hv.dropLast f hok' hl' f0 f1
    have hlD := hlord hv.dropLast f hok' hl' f0 f1
    have hDB := hban hv.dropLast hok' hl'
    have hlDB := hlban hv.dropLast hok' hl'
    generalize run n hv.dropLast f n.toNat [] = G at *
    generalize (List.range hv.dropLast.length).map (bandAt hv.dropLast R) = C at *
    have hsl := drop_last_sl hv c
    refine ⟨p7, .list (hv.map enc3), .int f, .list (R.map .int), .list (hv.dropLast.map enc3), .list (F.map .int).reverse, d9, .list (B.map encP), .list [], .int N, .list (W.map .int ++ [.int 7]), d14, ?_⟩
    have t7 : gTest (gOp hNe (gVar 4) (gLst (gNil))) [sc, p7, .int n, .int at', .list (hv.map enc3), .int f, .list (R.map .int), .list (hv.map enc3), .list (F.map .int).reverse, d9, .list (B.map encP), .list [], .int N, .list (W.map .int ++ [.int 7]), d14] = .ok true := by
      rw [gTest_def, gOp_def, hL]
      show bnd (hNe (.list (hv.map enc3)) (.list [])) asB = _
      rw [hNe_nil]
      cases hv with
      | nil => exact absurd rfl c
      | cons t hv => rfl
    have hpop : gPopS 7 [sc, p7, .int n, .int at', .list (hv.map enc3), .int f, .list (R.map .int), .list (hv.map enc3), .list (F.map .int).reverse, d9, .list (B.map encP), .list [], .int N, .list (W.map .int ++ [.int 7]), d14] = .ok (.nx [sc, p7, .int n, .int at', .list (hv.map enc3), .int f, .list (R.map .int), .list (hv.dropLast.map enc3), .list (F.map .int).reverse, d9, .list (B.map encP), .list [], .int N, .list (W.map .int ++ [.int 7]), d14]) := by
      rw [List.map_dropLast]
      cases hv with
      | nil => exact absurd rfl c
      | cons t hv => rfl
    have es : gSl hSl (gVar 4) (gNoPart) (gPart (gUn (hU fun i => -i) (gC (.int (1))))) [sc, p7, .int n, .int at', .list (hv.map enc3), .int f, .list (R.map .int), .list (hv.dropLast.map enc3), .list (F.map .int).reverse, d9, .list (B.map encP), .list [], .int N, .list (W.map .int ++ [.int 7]), d14] = .ok (.list (hv.dropLast.map enc3)) := by
      rw [gSl_def]
      exact hsl
    have t8 : gTest (gOp hNe (gCallKw 2 3 f_order (gCons (gVar 2) (gCons (gVar 7) (gNil))) (gCons (gVar 5) gNil)) (gCallN 3 f_l_order (gCons (gVar 2) (gCons (gSl hSl (gVar 4) (gNoPart) (gPart (gUn (hU fun i => -i) (gC (.int (1)))))) (gCons (gVar 5) (gNil)))))) [sc, p7, .int n, .int at', .list (hv.map enc3), .int f, .list (R.map .int), .list (hv.dropLast.map enc3), .list (F.map .int).reverse, d9, .list (B.map encP), .list [], .int N, .list (W.map .int ++ [.int 7]), d14] = .ok false := by
      have q1 : gCallKw 2 3 f_order (gCons (gVar 2) (gCons (gVar 7) (gNil))) (gCons (gVar 5) gNil) [sc, p7, .int n, .int at', .list (hv.map enc3), .int f, .list (R.map .int), .list (hv.dropLast.map enc3), .list (F.map .int).reverse, d9, .list (B.map encP), .list [], .int N, .list (W.map .int ++ [.int 7]), d14] = .ok (.list (G.map .int)) := callKw_ok (ds := [.int n, .list (hv.dropLast.map enc3)]) (es := [.int f]) rfl rfl ⟨rfl, rfl⟩ hD
      have q2 : gCallN 3 f_l_order (gCons (gVar 2) (gCons (gSl hSl (gVar 4) (gNoPart) (gPart (gUn (hU fun i => -i) (gC (.int (1)))))) (gCons (gVar 5) (gNil)))) [sc, p7, .int n, .int at', .list (hv.map enc3), .int f, .list (R.map .int), .list (hv.dropLast.map enc3), .list (F.map .int).reverse, d9, .list (B.map encP), .list [], .int N, .list (W.map .int ++ [.int 7]), d14] = .ok (.list (G.map .int)) := callN_ok (ds := [.int n, .list (hv.dropLast.map enc3), .int f]) (by rw [gCons_def, gCons_def, es]; rfl) rfl hlD
      rw [gTest_def, gOp_def, q1, bnd_ok, q2, bnd_ok, hNe_ints, decide_eq_true rfl]
      rfl
    have t9 : gTest (gOp hNe (gCallN 3 f_bands (gCons (gVar 2) (gCons (gVar 7) (gCons (gCB (one hListOf) (gCons (gVar 6) gNil)) (gNil))))) (gCallN 2 f_l_bands (gCons (gSl hSl (gVar 4) (gNoPart) (gPart (gUn (hU fun i => -i) (gC (.int (1)))))) (gCons (gVar 6) (gNil))))) [sc, p7, .int n, .int at', .list (hv.map enc3), .int f, .list (R.map .int), .list (hv.dropLast.map enc3), .list (F.map .int).reverse, d9, .list (B.map encP), .list [], .int N, .list (W.map .int ++ [.int 7]), d14] = .ok false := by
      have q1 : gCallN 3 f_bands (gCons (gVar 2) (gCons (gVar 7) (gCons (gCB (one hListOf) (gCons (gVar 6) gNil)) (gNil)))) [sc, p7, .int n, .int at', .list (hv.map enc3), .int f, .list (R.map .int), .list (hv.dropLast.map enc3), .list (F.map .int).reverse, d9, .list (B.map encP), .list [], .int N, .list (W.map .int ++ [.int 7]), d14] = .ok (.list (C.map encP)) := callN_ok (ds := [.int n, .list (hv.dropLast.map enc3), .list (R.map .int)]) (by rfl) rfl hDB
      have q2 : gCallN 2 f_l_bands (gCons (gSl hSl (gVar 4) (gNoPart) (gPart (gUn (hU fun i => -i) (gC (.int (1)))))) (gCons (gVar 6) (gNil))) [sc, p7, .int n, .int at', .list (hv.map enc3), .int f, .list (R.map .int), .list (hv.dropLast.map enc3), .list (F.map .int).reverse, d9, .list (B.map encP), .list [], .int N, .list (W.map .int ++ [.int 7]), d14] = .ok (.list (C.map encP)) := callN_ok (ds := [.list (hv.dropLast.map enc3), .list (R.map .int)]) (by rw [gCons_def, es]; rfl) rfl hlDB
      rw [gTest_def, gOp_def, q1, bnd_ok, q2, bnd_ok, hNe_P]
      rfl
    unfold g_law_L1
    refine (pre _ rfl).trans ?_
    refine seq_step (set_ok c6) ?_
    dsimp only [List.set]
    refine seq_step (set_ok (d := .list (hv.map enc3)) (by rfl)) ?_
    dsimp only [List.set]
    refine seq_step (set_ok c8) ?_
    dsimp only [List.set]
    refine seq_step ((if_f t1).trans rfl) ?_
    refine seq_step ((if_f t2).trans rfl) ?_
    refine seq_step hmix ?_
    refine seq_step (set_ok c10) ?_
    dsimp only [List.set]
    refine seq_step (set_ok c11) ?_
    dsimp only [List.set]
    refine seq_step ((if_f t3).trans rfl) ?_
    refine seq_step (xset_ok h7) ?_
    dsimp only [List.set]
    refine seq_step (set_ok c13) ?_
    dsimp only [List.set]
    refine seq_step ((if_f t4).trans rfl) ?_
    refine (mid _).trans ?_
    refine seq_step ((if_f t5).trans rfl) ?_
    refine seq_step ((if_f t6).trans rfl) ?_
    refine (if_t t7).trans ?_
    refine seq_step hpop ?_
    refine seq_step ((if_f t8).trans rfl) ?_
    exact (if_f t9).trans rfl
theorem law_true (ns : List Int) (hl : ns.length ≤ 63) (_ : ∀ z ∈ ns, Builtin.Int.intBits z ≤ 1048576) : f_law [.list (ns.map .int)] = .ok (.bool true) := by
  obtain ⟨p0, h0, hp0⟩ := pool_ok ns (k := 0) (by omega) (by omega)
  obtain ⟨d, p1, h1, d0, d1, hp1⟩ := tk_ok (i := 1) (gA := xCons (xP (gC (.int (2)))) xNil) (ρ := [.list (ns.map .int), p0, .none, .none, .none, .none, .none, .none, .none, .none, .none, .none, .none, .none, .none]) rfl rfl hp0 (by omega : (0 : Int) < 2) (by omega)
  have h1 : xCallM .la 2 f_l_take 1 (xCons (xP (gC (.int (2)))) xNil) [.list (ns.map .int), p0, .none, .none, .none, .none, .none, .none, .none, .none, .none, .none, .none, .none, .none] = .ok (.int d, [.list (ns.map .int), p1, .none, .none, .none, .none, .none, .none, .none, .none, .none, .none, .none, .none, .none]) := h1
  obtain ⟨sz, hsz, sz0, sz1⟩ := ix_list (xs := [5, 10]) (lo := 5) (hi := 10) d0 d1 (by decide)
  obtain ⟨e, p2, h2, e0, e1', hp2⟩ := tk_ok (i := 1) (gA := xCons (xOp hIx (xP (gLst (gCons (gC (.int (5))) (gCons (gC (.int (10))) (gNil))))) (xCallM .la 2 f_l_take 1 (xCons (xP (gC (.int (2)))) (xNil)))) xNil) (ρ := [.list (ns.map .int), p0, .none, .none, .none, .none, .none, .none, .none, .none, .none, .none, .none, .none, .none]) (ρ' := [.list (ns.map .int), p1, .none, .none, .none, .none, .none, .none, .none, .none, .none, .none, .none, .none, .none]) (size := sz) (by
    have q : gLst (gCons (gC (.int (5))) (gCons (gC (.int (10))) (gNil))) [.list (ns.map .int), p0, .none, .none, .none, .none, .none, .none, .none, .none, .none, .none, .none, .none, .none] = .ok (.list ([5, 10].map .int)) := rfl
    rw [xCons_def, xOp_def, xP_def, q, bnd_ok, bnd_ok, h1, bnd_ok, hsz]
    rfl) rfl hp1 (by omega) (by omega)
  generalize hj : (if (if (ns.length : Int) < 7 then (ns.length : Int) else 7) > 2 then (if (ns.length : Int) < 7 then (ns.length : Int) else 7) else 2) = j
  have j1 : 2 ≤ j ∧ j ≤ 7 := by split at hj <;> (try split at hj) <;> (try split at hj) <;> omega
  obtain ⟨ρ', hf, e1, e3, e4, e5, e6, e7, e8, e9, e10, e11, e12, e13, e14, rfl⟩ := forE_ix (fun (k : Nat) => PyData.int (1 + (k : Int))) (h := tgN 3) (b := g_law_L1) (List.range (j - 1).toNat)
    (fun _ ρ => ∃ e1 e3 e4 e5 e6 e7 e8 e9 e10 e11 e12 e13 e14, ρ = [.list (ns.map .int), e1, .int (1 + e), e3, e4, e5, e6, e7, e8, e9, e10, e11, e12, e13, e14])
    (ρ := [.list (ns.map .int), p2, .int (1 + e), .none, .none, .none, .none, .none, .none, .none, .none, .none, .none, .none, .none]) ⟨_, _, _, _, _, _, _, _, _, _, _, _, _, rfl⟩ (by
      rintro i ρ hi ⟨e1, e3, e4, e5, e6, e7, e8, e9, e10, e11, e12, e13, e14, rfl⟩
      rw [List.length_range] at hi
      rw [List.getElem_range]
      obtain ⟨f1, f4, f5, f6, f7, f8, f9, f10, f11, f12, f13, f14, h1⟩ := body_ok ns (n := 1 + e) (at' := 1 + (i : Int)) (by omega) (by omega) (by omega) (by omega) e1 e4 e5 e6 e7 e8 e9 e10 e11 e12 e13 e14
      exact ⟨_, _, rfl, .inl h1, f1, _, f4, f5, f6, f7, f8, f9, f10, f11, f12, f13, f14, rfl⟩)
  refine fnN_rt ?_
  show g_law [.list (ns.map .int), .none, .none, .none, .none, .none, .none, .none, .none, .none, .none, .none, .none, .none, .none] = _
  unfold g_law
  refine seq_step (set_ok (callN_ok (ds := [.list (ns.map .int), .int 0]) rfl rfl h0)) ?_
  dsimp only [List.set]
  refine seq_step (xset_ok (ρ' := [.list (ns.map .int), p2, .none, .none, .none, .none, .none, .none, .none, .none, .none, .none, .none, .none, .none]) (d := .int (1 + e)) ?_) ?_
  · rw [xOp_def, xP_def, gC_def, bnd_ok, bnd_ok, h2]
    rfl
  dsimp only [List.set]
  refine seq_step (for_ok (ds := (List.range (j - 1).toNat).map fun (k : Nat) => PyData.int (1 + (k : Int))) ?_ hf) rfl
  rw [rng2_ok (i := 1) (j := j) (by simp only [bnd_ok, gVar_def, gC_def, gOp_def, gUn_def, gNil_def, gCons_def, gIf_def, gTest_def, gNot_def, gAnd_def, gOr_def, gAndV_def, gOrV_def, gNotV_def, gCB_def, asB_b, hAdd_i, hSub_i, hLt_i, hLe_i, hGt_i, hGe_i, hMul_r, hMul_l, hMod_i, hDiv_s, hBand_i, hShr_i, hPow_10_18, hPow_10_27, hPow_10_28, hPow_10_29, hPow_10_30, hEq_i, hNe_i, hLen_l, hLen_t, hMin2_i, hMax2_i, hMin3_i, hInt1_b, hInt1_i, hBits_i, hListOf_l, hListOf_t, hTupOf_l, hTupOf_t, gSeqS_def, gSet_def, gRet_def, gIfS_def, gNext_def, gTup_def, gLst_def, List.getElem?_cons_zero, List.getElem?_cons_succ, List.set_cons_zero, List.set_cons_succ, List.length_cons, List.length_nil, Nat.zero_add, Nat.reduceAdd, Nat.reduceLeDiff, Nat.reduceSub, Nat.reduceMul, if_true, if_false, Bool.false_eq_true, List.replicate_succ, List.replicate_zero, List.cons_append, List.nil_append, tgN, tgT, tgCons, tgNil, Int.reducePow, Int.reduceAdd, Int.reduceSub, Int.reduceMul, decide_true, decide_false, Bool.not_true, Bool.not_false, gChain_def, hIsa_int, hIsa_intb, hIsa_list, hIsa_tuple, gDrop_def, List.length_map, hj]) (by omega) (by omega) (by omega) (by omega)]
  rfl
end K49
end T_K49Q
open PySem PySem.W PyProof.Rows
set_option maxRecDepth 100000 in
set_option maxHeartbeats 0 in
theorem PySem.Challenge.cw_sinceply_k49_order_and_bands_told_holds : PySem.Challenge.rw_sinceply_k49_order_and_bands_told.Holds := by
  w_on; o_law; k_head; (case hw => w_witness2)
  k_fill
  refine L2.walk_ofB (l := PySem.Challenge.rw_sinceply_k49_order_and_bands_told) (n := 63) (k := 7) (x := "script") (CX := fun _ => L2.CX0) (sp := fun w => Sim.spLaw _ K49.f_law) rfl (by decide) rfl ⟨rfl, by decide, by decide⟩ (fun w h Y => PySem.W.kIn_of Y) ?F (fun _ _ a ns hl hb _ hS => Sim.spLaw_of hS (K49.law_true ns hl hb)) (fun _ _ _ _ _ h => h)
  case F =>
    intro w mg fa h KX G hmg
    refine' Sim.okLaw_of (K49.all_mk KX G hmg ?a0 ?l0 ?c0 ?k0 ?a1 ?l1 ?c1 ?k1 ?a2 ?l2 ?c2 ?k2 ?a3 ?l3 ?c3 ?k3 ?a4 ?l4 ?c4 ?k4 ?a5 ?l5 ?c5 ?k5 ?a6 ?l6 ?c6 ?k6 ?a7 ?l7 ?c7 ?k7 ?a8 ?l8 ?c8 ?k8 ?a9 ?l9 ?c9 ?k9 ?a10 ?l10 ?c10 ?k10 ?e10 ?a11 ?l11 ?c11 ?k11 ?a12 ?l12 ?c12 ?k12 ?a13 ?l13 ?c13 ?k13 ?a14 ?l14 ?c14 ?k14 ?a15 ?l15 ?c15 ?k15 ?a16 ?l16 ?c16 ?k16 ?a17 ?l17 ?c17 ?k17 ?a18 ?l18 ?c18 ?k18 ?a19 ?l19 ?c19 ?k19 ?a20 ?l20 ?c20 ?k20 ?a21 ?l21 ?c21 ?k21 ?a22 ?l22 ?c22 ?k22 ?a23 ?l23 ?c23 ?k23 ?z_isinstance ?z_int ?z_bool ?z_tuple ?z_len ?z_list ?z_all ?z_min ?z_max ?z_sorted ?z_range ?z_enumerate ?z_sum ?y_MOST_PLACES ?y_LAST_MOMENT ?y_MOST_TIES_records ?y_HEAVIEST ?y_MOST_TIES_orders)
    (case a0 => k_is); (case l0 => k_is); (case c0 => k_is); (case k0 => k_is); (case a1 => k_is); (case l1 => k_is); (case c1 => k_is); (case k1 => k_is); (case a2 => k_is); (case l2 => k_is); (case c2 => k_is); (case k2 => k_is); (case a3 => k_is); (case l3 => k_is); (case c3 => k_is); (case k3 => k_is); (case a4 => k_is); (case l4 => k_is); (case c4 => k_is); (case k4 => k_is); (case a5 => k_is); (case l5 => k_is); (case c5 => k_is); (case k5 => k_is); (case a6 => k_is); (case l6 => k_is); (case c6 => k_is); (case k6 => k_is); (case a7 => k_is); (case l7 => k_is); (case c7 => k_is); (case k7 => k_is); (case a8 => k_is); (case l8 => k_is); (case c8 => k_is); (case k8 => k_is); (case a9 => k_is); (case l9 => k_is); (case c9 => k_is); (case k9 => k_is); (case a10 => k_is); (case l10 => k_is); (case c10 => k_is); (case k10 => k_is); (case e10 => k_is); (case a11 => k_is); (case l11 => k_is); (case c11 => k_is); (case k11 => k_is); (case a12 => k_is); (case l12 => k_is); (case c12 => k_is); (case k12 => k_is); (case a13 => k_is); (case l13 => k_is); (case c13 => k_is); (case k13 => k_is); (case a14 => k_is); (case l14 => k_is); (case c14 => k_is); (case k14 => k_is); (case a15 => k_is); (case l15 => k_is); (case c15 => k_is); (case k15 => k_is); (case a16 => k_is); (case l16 => k_is); (case c16 => k_is); (case k16 => k_is); (case a17 => k_is); (case l17 => k_is); (case c17 => k_is); (case k17 => k_is); (case a18 => k_is); (case l18 => k_is); (case c18 => k_is); (case k18 => k_is); (case a19 => k_is); (case l19 => k_is); (case c19 => k_is); (case k19 => k_is); (case a20 => k_is); (case l20 => k_is); (case c20 => k_is); (case k20 => k_is); (case a21 => k_is); (case l21 => k_is); (case c21 => k_is); (case k21 => k_is); (case a22 => k_is); (case l22 => k_is); (case c22 => k_is); (case k22 => k_is); (case a23 => k_is); (case l23 => k_is); (case c23 => k_is); (case k23 => k_is); (case z_isinstance => k_is); (case z_int => k_is); (case z_bool => k_is); (case z_tuple => k_is); (case z_len => k_is); (case z_list => k_is); (case z_all => k_is); (case z_min => k_is); (case z_max => k_is); (case z_sorted => k_is); (case z_range => k_is); (case z_enumerate => k_is); (case z_sum => k_is); (case y_MOST_PLACES => k_is); (case y_LAST_MOMENT => k_is); (case y_MOST_TIES_records => k_is); (case y_HEAVIEST => k_is); (case y_MOST_TIES_orders => k_is)
