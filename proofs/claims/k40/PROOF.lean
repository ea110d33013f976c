import PyProof.Rows.All
import Wide.All
import OpenK.AllK
import Wide.FinOn
import HandS.EndBits
import HandS.ForMost
import HandS.Walk
import HandS.Wide
import HandS.ForExc
import HandS.SortInts
import HandS.Deep
import HandS.WideBits
import HandS.TupAny
import HandS.IsInst
import HandS.Iter
import HandS.Rev
import HandS.RevTup
import HandS.Conv
import PyProof.ListRange
import HandS.Dict
import HandS.Style
import HandS.TupSets
import HandS.SetFor
import HandS.Defaults
import KE.BitLaws
import PySem.Challenge.RW_sinceply_k40_whole_pared_on_every_side
section T_SimA
set_option Elab.async false
set_option linter.all false
set_option maxRecDepth 100000
/-! SimA: a plain functional reading (closures over PyData) of the hand layer's readings. -/
namespace Sim
open PySem PySem.Spec L2
open PyProof.Rows hiding St

abbrev Dt := PyData

/-! ### what stands for a datum -/
def Fz (K : PySem.W.Frag) (H : Hp) (a : Addr) (xs : List V) : Prop :=
  (∃ o, H a = some (.frz o (.lst xs))) ∨
    ∃ (o : Obj) (its : Array Value) (n : Nat), K.lookup a = some o ∧ o.cls = .type "list" ∧ o.dict = none ∧ o.data = .seq its n ∧ its.size ≤ sizeLine ∧ Vals xs its.toList

def keyD : Key → Dt
  | .inl i => .int i
  | .inr x => .str x
mutual
inductive Rp (K : PySem.W.Frag) (F : Addr → Prop) (H : Hp) : V → Dt → Prop
  | non : Rp K F H .non .none
  | bl (b : Bool) : Rp K F H (.bl b) (.bool b)
  | int (i : Int) : Rp K F H (.int i) (.int i)
  | str (x : Str) : Rp K F H (.str x) (.str x)
  | lst {a : Addr} {xs : List V} {ds : List Dt} : H a = some (.lst xs) → F a → RpA K F H xs ds → Rp K F H (.ref a) (.list ds)
  | fz {a : Addr} {xs : List V} {ds : List Dt} : Fz K H a xs → RpA K F H xs ds → Rp K F H (.ref a) (.list ds)
  | tup {a : Addr} {xs : List V} {ds : List Dt} : SqT K H a xs → RpA K F H xs ds → Rp K F H (.ref a) (.tuple ds)
  | dic {a : Addr} {kvs : List (Key × V)} {es : List (Dt × Dt)} : H a = some (.dK kvs) → F a → kvs.map (fun kv => keyD kv.1) = es.map (fun e => e.1) → RpA K F H (kvs.map fun kv => kv.2) (es.map fun e => e.2) → Rp K F H (.ref a) (.dict es)
inductive RpA (K : PySem.W.Frag) (F : Addr → Prop) (H : Hp) : List V → List Dt → Prop
  | nil : RpA K F H [] []
  | cons {v : V} {vs : List V} {d : Dt} {ds : List Dt} : Rp K F H v d → RpA K F H vs ds → RpA K F H (v :: vs) (d :: ds)
end

section
variable {K : PySem.W.Frag} {F F' : Addr → Prop} {H H' : Hp} {v : V} {d : Dt} {vs : List V} {ds : List Dt} {a p : Addr} {xs : List V}

theorem Fz.same (e : Same H H') (h : Fz K H a xs) : Fz K H' a xs := by
  rcases h with ⟨o, h⟩ | h
  · exact .inl ⟨o, e _ _ h⟩
  · exact .inr h
theorem Fz.sql (h : Fz K H a xs) : SqL K H a xs := by
  rcases h with ⟨o, h⟩ | h
  · exact .inl (.inr ⟨o, h⟩)
  · exact .inr h
theorem sqt_same (e : Same H H') (h : SqT K H a xs) : SqT K H' a xs := by
  rcases h with (h | ⟨o, h⟩) | h
  · exact .inl (.inl (e _ _ h))
  · exact .inl (.inr ⟨o, e _ _ h⟩)
  · exact .inr h

mutual
theorem Rp.mono (e : Same H H') (f : ∀ a, F a → H a ≠ none → F' a) : ∀ {v : V} {d : Dt}, Rp K F H v d → Rp K F' H' v d
  | _, _, .non => .non
  | _, _, .bl b => .bl b
  | _, _, .int i => .int i
  | _, _, .str x => .str x
  | _, _, .lst h fa r => .lst (e _ _ h) (f _ fa (by rw [h]; exact fun z => nomatch z)) (RpA.mono e f r)
  | _, _, .fz h r => .fz (h.same e) (RpA.mono e f r)
  | _, _, .tup h r => .tup (sqt_same e h) (RpA.mono e f r)
  | _, _, .dic h fa hk r => .dic (e _ _ h) (f _ fa (by rw [h]; exact fun z => nomatch z)) hk (RpA.mono e f r)
theorem RpA.mono (e : Same H H') (f : ∀ a, F a → H a ≠ none → F' a) : ∀ {vs : List V} {ds : List Dt}, RpA K F H vs ds → RpA K F' H' vs ds
  | _, _, .nil => .nil
  | _, _, .cons h r => .cons (Rp.mono e f h) (RpA.mono e f r)
end
/-- what holds a place of its own (no tuple, not locked) -/
def Mutb (o : HO) : Prop := match o with
  | .lst _ => True
  | .dK _ => True
  | .dT _ => True
  | _ => False
theorem Fz.updM {o o' : HO} (hp : H p = some o) (m : Mutb o) (h : Fz K H a xs) : Fz K (upd H p o') a xs := by
  rcases h with ⟨q, h⟩ | h
  · refine .inl ⟨q, ?_⟩
    rw [upd_ne ?_]
    · exact h
    · intro z
      subst z
      rw [hp] at h
      cases h
      exact m
  · exact .inr h
theorem sqt_updM {o o' : HO} (hp : H p = some o) (m : Mutb o) (h : SqT K H a xs) : SqT K (upd H p o') a xs := by
  rcases h with (h | ⟨q, h⟩) | h
  · refine .inl (.inl ?_)
    rw [upd_ne ?_]
    · exact h
    · intro z
      subst z
      rw [hp] at h
      cases h
      exact m
  · refine .inl (.inr ⟨q, ?_⟩)
    rw [upd_ne ?_]
    · exact h
    · intro z
      subst z
      rw [hp] at h
      cases h
      exact m
  · exact .inr h
mutual
theorem Rp.updM {o o' : HO} (hp : H p = some o) (m : Mutb o) (nf : ∀ a, F a → a ≠ p) : ∀ {v : V} {d : Dt}, Rp K F H v d → Rp K F (upd H p o') v d
  | _, _, .non => .non
  | _, _, .bl b => .bl b
  | _, _, .int i => .int i
  | _, _, .str x => .str x
  | _, _, .lst h fa r => .lst (by rw [upd_ne (nf _ fa)]; exact h) fa (RpA.updM hp m nf r)
  | _, _, .fz h r => .fz (h.updM hp m) (RpA.updM hp m nf r)
  | _, _, .tup h r => .tup (sqt_updM hp m h) (RpA.updM hp m nf r)
  | _, _, .dic h fa hk r => .dic (by rw [upd_ne (nf _ fa)]; exact h) fa hk (RpA.updM hp m nf r)
theorem RpA.updM {o o' : HO} (hp : H p = some o) (m : Mutb o) (nf : ∀ a, F a → a ≠ p) : ∀ {vs : List V} {ds : List Dt}, RpA K F H vs ds → RpA K F (upd H p o') vs ds
  | _, _, .nil => .nil
  | _, _, .cons h r => .cons (Rp.updM hp m nf h) (RpA.updM hp m nf r)
end
mutual
theorem Rp.dp : ∀ {v : V} {d : Dt}, Rp K F H v d → PyData.canLay0 d = true → Dp K H v d
  | _, _, .non, _ => .non
  | _, _, .bl b, _ => .bl b
  | _, _, .int i, _ => .int i
  | _, _, .str x, _ => .str x
  | _, _, .lst h _ r, c => .lst (.inl (.inl h)) (RpA.dp r (by simpa [PyData.canLay0] using c))
  | _, _, .fz h r, c => .lst h.sql (RpA.dp r (by simpa [PyData.canLay0] using c))
  | _, _, .tup h r, c => .tup h (RpA.dp r (by simpa [PyData.canLay0] using c))
  | _, _, .dic _ _ _ _, c => by simp [PyData.canLay0] at c
theorem RpA.dp : ∀ {vs : List V} {ds : List Dt}, RpA K F H vs ds → PyData.canLayAll0 ds = true → DpAll K H vs ds
  | _, _, .nil, _ => .nil
  | _, _, .cons h r, c => by
    unfold PyData.canLayAll0 at c
    rw [Bool.and_eq_true] at c
    exact .cons (Rp.dp h c.1) (RpA.dp r c.2)
end
theorem shaped_lay {d : Dt} (h : SeqAt.shaped d = true) : PyData.canLay0 d = true := by
  unfold SeqAt.shaped at h
  rw [Bool.and_eq_true] at h
  exact h.1
theorem RpA.length : ∀ {vs : List V} {ds : List Dt}, RpA K F H vs ds → vs.length = ds.length
  | _, _, .nil => rfl
  | _, _, .cons _ r => by rw [List.length_cons, List.length_cons, r.length]
theorem RpA.get : ∀ {vs : List V} {ds : List Dt} {i : Nat} {v : V}, RpA K F H vs ds → vs[i]? = some v → ∃ d, ds[i]? = some d ∧ Rp K F H v d
  | _, _, _, _, .nil, e => by simp at e
  | _, _, 0, _, .cons h _, e => by simp at e; subst e; exact ⟨_, rfl, h⟩
  | _, _, i + 1, v, .cons _ r, e => by
    obtain ⟨d, h1, h2⟩ := RpA.get (i := i) (v := v) r (by simpa using e)
    exact ⟨d, by simpa using h1, h2⟩
theorem RpA.get' : ∀ {vs : List V} {ds : List Dt} {i : Nat} {d : Dt}, RpA K F H vs ds → ds[i]? = some d → ∃ v, vs[i]? = some v ∧ Rp K F H v d
  | _, _, _, _, .nil, e => by simp at e
  | _, _, 0, _, .cons h _, e => by simp at e; subst e; exact ⟨_, rfl, h⟩
  | _, _, i + 1, d, .cons _ r, e => by
    obtain ⟨v, h1, h2⟩ := RpA.get' (i := i) (d := d) r (by simpa using e)
    exact ⟨v, by simpa using h1, h2⟩
theorem RpA.append : ∀ {xs ys : List V} {ds es : List Dt}, RpA K F H xs ds → RpA K F H ys es → RpA K F H (xs ++ ys) (ds ++ es)
  | _, _, _, _, .nil, s => s
  | _, _, _, _, .cons h r, s => .cons h (RpA.append r s)
theorem RpA.take : ∀ {xs : List V} {ds : List Dt} (n : Nat), RpA K F H xs ds → RpA K F H (xs.take n) (ds.take n)
  | _, _, 0, _ => .nil
  | _, _, _ + 1, .nil => .nil
  | _, _, n + 1, .cons h r => .cons h (RpA.take n r)
theorem RpA.drop : ∀ {xs : List V} {ds : List Dt} (n : Nat), RpA K F H xs ds → RpA K F H (xs.drop n) (ds.drop n)
  | _, _, 0, r => r
  | _, _, _ + 1, .nil => .nil
  | _, _, n + 1, .cons _ r => RpA.drop n r
theorem RpA.set {x : V} {d : Dt} (h : Rp K F H x d) : ∀ {xs : List V} {ds : List Dt} (i : Nat), RpA K F H xs ds → RpA K F H (xs.set i x) (ds.set i d)
  | _, _, _, .nil => .nil
  | _, _, 0, .cons _ r => .cons h r
  | _, _, i + 1, .cons q r => .cons q (RpA.set h i r)
theorem RpA.reverse {xs : List V} {ds : List Dt} (h : RpA K F H xs ds) : RpA K F H xs.reverse ds.reverse := by
  induction xs generalizing ds with
  | nil => cases h; exact .nil
  | cons x xs ih =>
    cases h with
    | cons q r =>
      rw [List.reverse_cons, List.reverse_cons]
      exact (ih r).append (.cons q .nil)
theorem RpA.flat {xs : List V} {ds : List Dt} (h : RpA K F H xs ds) : ∀ k : Nat, RpA K F H (List.replicate k xs).flatten (List.replicate k ds).flatten
  | 0 => .nil
  | k + 1 => by
    rw [List.replicate_succ, List.replicate_succ, List.flatten_cons, List.flatten_cons]
    exact h.append (RpA.flat h k)
mutual
def pure1 : Dt → Bool
  | .list _ => false
  | .dict _ => false
  | .tuple xs => pureA xs
  | _ => true
def pureA : List Dt → Bool
  | [] => true
  | x :: xs => pure1 x && pureA xs
end
mutual
theorem Rp.pure : ∀ {v : V} {d : Dt}, Rp K F H v d → pure1 d = true → Rp K F' H v d
  | _, _, .non, _ => .non
  | _, _, .bl b, _ => .bl b
  | _, _, .int i, _ => .int i
  | _, _, .str x, _ => .str x
  | _, _, .lst h _ r, e => by rw [pure1] at e; cases e
  | _, _, .fz h r, e => by rw [pure1] at e; cases e
  | _, _, .tup h r, e => .tup h (RpA.pure r (by rw [pure1] at e; exact e))
  | _, _, .dic h _ _ r, e => by rw [pure1] at e; cases e
theorem RpA.pure : ∀ {vs : List V} {ds : List Dt}, RpA K F H vs ds → pureA ds = true → RpA K F' H vs ds
  | _, _, .nil, _ => .nil
  | _, _, .cons h r, e => by
    rw [pureA, Bool.and_eq_true] at e
    exact .cons (Rp.pure h e.1) (RpA.pure r e.2)
end
theorem Rp.weak (f : ∀ a, F a → F' a) (h : Rp K F H v d) : Rp K F' H v d := h.mono (Same.refl H) fun a fa _ => f a fa
theorem RpA.weak (f : ∀ a, F a → F' a) (h : RpA K F H vs ds) : RpA K F' H vs ds := h.mono (Same.refl H) fun a fa _ => f a fa
theorem Rp.same (e : Same H H') (h : Rp K F H v d) : Rp K F H' v d := h.mono e fun a fa _ => fa
theorem RpA.same (e : Same H H') (h : RpA K F H vs ds) : RpA K F H' vs ds := h.mono e fun a fa _ => fa
/-- one thing stands for one datum -/
theorem Fz.inj_lst {ys : List V} (h : Fz K H a xs) (h' : H a = some (.lst ys)) : (∃ (o : Obj) (its : Array Value) (n : Nat), K.lookup a = some o ∧ o.cls = .type "list" ∧ o.dict = none ∧ o.data = .seq its n ∧ its.size ≤ sizeLine ∧ Vals xs its.toList) := by
  rcases h with ⟨o, h⟩ | h
  · rw [h] at h'; cases h'
  · exact h
end

/-! ### outcomes -/
structure Exn where
  cls : Str
  arg : Option Int
inductive O (α : Type) where
  | bad | ok (a : α) | ex (e : Exn)
def bnd {α β : Type} (x : O α) (f : α → O β) : O β := match x with
  | .bad => .bad
  | .ok a => f a
  | .ex e => .ex e
@[simp] theorem bnd_ok {α β : Type} (a : α) (f : α → O β) : bnd (.ok a) f = f a := rfl
@[simp] theorem bnd_bad {α β : Type} (f : α → O β) : bnd .bad f = .bad := rfl
@[simp] theorem bnd_ex {α β : Type} (e : Exn) (f : α → O β) : bnd (.ex e) f = .ex e := rfl

/-! ### kinds of slots, frames, states -/
inductive Ct where
  | l | dk | dt | la | ka
/-- an argument of one's own -/
def isArg : Ct → Bool
  | .la => true
  | .ka => true
  | _ => false
inductive Kd where
  | no | im (fr : Bool) | own (c : Ct) (fr : Bool)
structure Fm where
  H0 : Hp
  G : Addr → Prop
  Γ : List (List V × List Dt × Bool)
  P : List Addr
  A : Option Addr := none

def Ow (Δ : List Kd) (σ : St) (a : Addr) : Prop := ∃ (i : Nat) (c : Ct) (fr : Bool), Δ[i]? = some (Kd.own c fr) ∧ σ[i]? = some (some (V.ref a))
def FM (f : Fm) (Δ : List Kd) (σ : St) (av fr : Bool) (a : Addr) : Prop := (av = true → ¬ Ow Δ σ a ∧ a ∉ f.P) ∧ (fr = true → f.G a)

inductive KvA (K : PySem.W.Frag) (F : Addr → Prop) (H : Hp) : List (Key × V) → List (Dt × Dt) → Prop
  | nil : KvA K F H [] []
  | cons {k : Key} {v : V} {d : Dt} {kvs : List (Key × V)} {es : List (Dt × Dt)} : Rp K F H v d → KvA K F H kvs es → KvA K F H ((k, v) :: kvs) ((keyD k, d) :: es)
inductive KtA (K : PySem.W.Frag) (F : Addr → Prop) (H : Hp) : List (List Key × V) → List (Dt × Dt) → Prop
  | nil : KtA K F H [] []
  | cons {k : List Key} {v : V} {d : Dt} {kvs : List (List Key × V)} {es : List (Dt × Dt)} : Rp K F H v d → KtA K F H kvs es → KtA K F H ((k, v) :: kvs) ((.tuple (k.map keyD), d) :: es)
def OwC (K : PySem.W.Frag) (c : Ct) (F : Addr → Prop) (H : Hp) (p : Addr) (d : Dt) : Prop := match c with
  | .l => ∃ vs ds, d = .list ds ∧ H p = some (.lst vs) ∧ RpA K F H vs ds
  | .dk => ∃ kvs es, d = .dict es ∧ H p = some (.dK kvs) ∧ KvA K F H kvs es
  | .dt => ∃ kvs es, d = .dict es ∧ H p = some (.dT kvs) ∧ KtA K F H kvs es
  | .la => ∃ vs ds, d = .list ds ∧ H p = some (.lst vs) ∧ RpA K F H vs ds
  | .ka => ∃ kvs es, d = .dict es ∧ H p = some (.dK kvs) ∧ KvA K F H kvs es

section
variable {K : PySem.W.Frag} {F F' : Addr → Prop} {H H' : Hp} {p q : Addr} {d : Dt} {c : Ct}
theorem KvA.map {kvs es} (f : ∀ v d, Rp K F H v d → Rp K F' H' v d) : KvA K F H kvs es → KvA K F' H' kvs es
  | .nil => .nil
  | .cons h r => .cons (f _ _ h) (KvA.map f r)
theorem KtA.map {kvs es} (f : ∀ v d, Rp K F H v d → Rp K F' H' v d) : KtA K F H kvs es → KtA K F' H' kvs es
  | .nil => .nil
  | .cons h r => .cons (f _ _ h) (KtA.map f r)
theorem RpA.map {vs ds} (f : ∀ v d, Rp K F H v d → Rp K F' H' v d) : RpA K F H vs ds → RpA K F' H' vs ds
  | .nil => .nil
  | .cons h r => .cons (f _ _ h) (RpA.map f r)
theorem OwC.map (hp : ∀ o, H p = some o → H' p = some o) (f : ∀ v d, Rp K F H v d → Rp K F' H' v d) (h : OwC K c F H p d) : OwC K c F' H' p d := by
  cases c with
  | l => obtain ⟨vs, ds, e, h1, h2⟩ := h; exact ⟨vs, ds, e, hp _ h1, h2.map f⟩
  | dk => obtain ⟨vs, ds, e, h1, h2⟩ := h; exact ⟨vs, ds, e, hp _ h1, h2.map f⟩
  | dt => obtain ⟨vs, ds, e, h1, h2⟩ := h; exact ⟨vs, ds, e, hp _ h1, h2.map f⟩
  | la => obtain ⟨vs, ds, e, h1, h2⟩ := h; exact ⟨vs, ds, e, hp _ h1, h2.map f⟩
  | ka => obtain ⟨vs, ds, e, h1, h2⟩ := h; exact ⟨vs, ds, e, hp _ h1, h2.map f⟩
theorem OwC.mutb (h : OwC K c F H p d) : ∃ o, H p = some o ∧ Mutb o := by
  cases c with
  | l => obtain ⟨vs, ds, e, h1, h2⟩ := h; exact ⟨_, h1, trivial⟩
  | dk => obtain ⟨vs, ds, e, h1, h2⟩ := h; exact ⟨_, h1, trivial⟩
  | dt => obtain ⟨vs, ds, e, h1, h2⟩ := h; exact ⟨_, h1, trivial⟩
  | la => obtain ⟨vs, ds, e, h1, h2⟩ := h; exact ⟨_, h1, trivial⟩
  | ka => obtain ⟨vs, ds, e, h1, h2⟩ := h; exact ⟨_, h1, trivial⟩
theorem OwC.there (h : OwC K c F H p d) : H p ≠ none := by
  obtain ⟨o, e, _⟩ := h.mutb
  rw [e]
  exact fun z => nomatch z
end

structure R (K : PySem.W.Frag) (f : Fm) (Δ : List Kd) (ρ : List Dt) (σ : St) (H : Hp) : Prop where
  ext : Same f.H0 H
  g0 : ∀ a, f.H0 a = none → f.G a
  lσ : σ.length = Δ.length
  lρ : ρ.length = Δ.length
  inj : ∀ (i j : Nat) (ci : Ct) (fi : Bool) (cj : Ct) (fj : Bool) (p : Addr), Δ[i]? = some (Kd.own ci fi) → Δ[j]? = some (Kd.own cj fj) → σ[i]? = some (some (V.ref p)) → σ[j]? = some (some (V.ref p)) → i = j
  pin : ∀ a ∈ f.P, (∃ o, H a = some o ∧ Mutb o) ∧ ¬ Ow Δ σ a
  gh : ∀ g ∈ f.Γ, RpA K (FM f Δ σ true g.2.2) H g.1 g.2.1
  im : ∀ (i : Nat) (fr : Bool), Δ[i]? = some (Kd.im fr) → ∃ v d, σ[i]? = some (some v) ∧ ρ[i]? = some d ∧ Rp K (FM f Δ σ true fr) H v d
  ow : ∀ (i : Nat) (c : Ct) (fr : Bool), Δ[i]? = some (Kd.own c fr) → ∃ p d, σ[i]? = some (some (V.ref p)) ∧ ρ[i]? = some d ∧ f.H0 p = none ∧ OwC K c (FM f Δ σ true fr) H p d
  ar : ∀ (i : Nat) (c : Ct) (fr : Bool), Δ[i]? = some (Kd.own c fr) → isArg c = true → ∃ p, f.A = some p ∧ σ[i]? = some (some (V.ref p))

section
variable {K : PySem.W.Frag} {f : Fm} {Δ : List Kd} {ρ : List Dt} {σ : St} {H H' : Hp} {v : V} {d : Dt} {i : Nat} {p : Addr}

theorem FM.weak {av fr av' fr' : Bool} (h1 : av' = true → av = true) (h2 : fr' = true → fr = true) {a : Addr} (h : FM f Δ σ av fr a) : FM f Δ σ av' fr' a := ⟨fun e => h.1 (h1 e), fun e => h.2 (h2 e)⟩

theorem R.mono (r : R K f Δ ρ σ H) (e : Same H H') : R K f Δ ρ σ H' where
  ext := r.ext.trans e
  g0 := r.g0
  lσ := r.lσ
  lρ := r.lρ
  inj := r.inj
  pin := fun a ha => let ⟨⟨o, h1, h2⟩, h3⟩ := r.pin a ha; ⟨⟨o, e _ _ h1, h2⟩, h3⟩
  gh := fun g hg => (r.gh g hg).same e
  im := fun i fr h => let ⟨v, d, h1, h2, h3⟩ := r.im i fr h; ⟨v, d, h1, h2, h3.same e⟩
  ow := fun i c fr h => let ⟨p, d, h1, h2, h3, h4⟩ := r.ow i c fr h; ⟨p, d, h1, h2, h3, h4.map (fun o => e p o) fun _ _ q => q.same e⟩
  ar := r.ar

theorem R.owOf (r : R K f Δ ρ σ H) {a : Addr} (h : Ow Δ σ a) : (∃ o, H a = some o ∧ Mutb o) ∧ f.H0 a = none := by
  obtain ⟨i, c, fr, h1, h2⟩ := h
  obtain ⟨p, d, e1, _, e3, e4⟩ := r.ow i c fr h1
  rw [h2] at e1
  cases e1
  exact ⟨e4.mutb, e3⟩
theorem R.fresh (r : R K f Δ ρ σ H) (h : H p = none) : ¬ Ow Δ σ p ∧ p ∉ f.P ∧ f.H0 p = none := by
  refine ⟨fun z => ?_, fun z => ?_, ?_⟩
  · obtain ⟨⟨o, e, _⟩, _⟩ := r.owOf z
    rw [h] at e; cases e
  · obtain ⟨⟨o, e, _⟩, _⟩ := r.pin p z
    rw [h] at e; cases e
  · cases q : f.H0 p with
    | none => rfl
    | some o => rw [r.ext p o q] at h; cases h

/-- an update at a place that no datum reaches (an owned one's content, or a pinned one) -/
theorem R.updAt {o o' : HO} (r : R K f Δ ρ σ H) (hp : H p = some o) (m : Mutb o) (m' : Mutb o') (h0 : f.H0 p = none) (no : ¬ Ow Δ σ p) (hP : p ∈ f.P) : R K f Δ ρ σ (upd H p o') := by
  have key : ∀ {fr : Bool} {v : V} {d : Dt}, Rp K (FM f Δ σ true fr) H v d → Rp K (FM f Δ σ true fr) (upd H p o') v d := fun h =>
    h.updM hp m fun a fa z => (fa.1 rfl).2 (z ▸ hP)
  refine ⟨fun b u e => ?_, r.g0, r.lσ, r.lρ, r.inj, fun a ha => ⟨?_, (r.pin a ha).2⟩, fun g hg => (r.gh g hg).map fun _ _ x => key x, fun i fr h => ?_, fun i c fr h => ?_, r.ar⟩
  · have : b ≠ p := fun z => by subst z; rw [h0] at e; cases e
    rw [upd_ne this]
    exact r.ext b u e
  · by_cases z : a = p
    · subst z
      exact ⟨o', upd_same, m'⟩
    · rw [upd_ne z]
      exact (r.pin a ha).1
  · obtain ⟨v, d, h1, h2, h3⟩ := r.im i fr h
    exact ⟨v, d, h1, h2, key h3⟩
  · obtain ⟨q, d, h1, h2, h3, h4⟩ := r.ow i c fr h
    have nq : q ≠ p := fun z => no ⟨i, c, fr, h, z ▸ h1⟩
    exact ⟨q, d, h1, h2, h3, h4.map (fun u e => by rw [upd_ne nq]; exact e) fun _ _ x => key x⟩

/-- an owned object's content is replaced -/
theorem R.updOwn {o' : HO} {c : Ct} {fr : Bool} (r : R K f Δ ρ σ H) (hk : Δ[i]? = some (Kd.own c fr)) (hs : σ[i]? = some (some (V.ref p)))
    {fr' : Bool} (m' : Mutb o') {c' : Ct} (new : OwC K c' (FM f Δ σ true fr') (upd H p o') p d) (hc : isArg c' = true → isArg c = true := by intro h; first | exact h | cases h) : R K f (Δ.set i (.own c' fr')) (ρ.set i d) σ (upd H p o') := by
  obtain ⟨p', d', e1, e2, e3, e4⟩ := r.ow i c fr hk
  rw [hs] at e1
  cases e1
  obtain ⟨o, ho, mo⟩ := e4.mutb
  have hi : i < Δ.length := (List.getElem?_eq_some_iff.mp hk).1
  have owp : Ow Δ σ p := ⟨i, c, fr, hk, hs⟩
  have ow' : ∀ a, Ow (Δ.set i (.own c' fr')) σ a ↔ Ow Δ σ a := fun a => by
    constructor
    · rintro ⟨j, cj, fj, h1, h2⟩
      by_cases z : i = j
      · subst z
        rw [hs] at h2
        cases h2
        exact owp
      · rw [List.getElem?_set_ne z] at h1
        exact ⟨j, cj, fj, h1, h2⟩
    · rintro ⟨j, cj, fj, h1, h2⟩
      by_cases z : i = j
      · subst z
        exact ⟨i, c', fr', by rw [List.getElem?_set_self hi], h2⟩
      · exact ⟨j, cj, fj, by rw [List.getElem?_set_ne z]; exact h1, h2⟩
  have key : ∀ {fr : Bool} {v : V} {d : Dt}, Rp K (FM f Δ σ true fr) H v d → Rp K (FM f (Δ.set i (.own c' fr')) σ true fr) (upd H p o') v d := fun h =>
    (h.updM ho mo fun a fa z => (fa.1 rfl).1 (z ▸ owp)).weak fun a fa => ⟨fun _ => ⟨fun z => (fa.1 rfl).1 ((ow' a).mp z), (fa.1 rfl).2⟩, fa.2⟩
  have key2 : ∀ {fr : Bool} {v : V} {d : Dt}, Rp K (FM f Δ σ true fr) (upd H p o') v d → Rp K (FM f (Δ.set i (.own c' fr')) σ true fr) (upd H p o') v d := fun h =>
    h.weak fun a fa => ⟨fun _ => ⟨fun z => (fa.1 rfl).1 ((ow' a).mp z), (fa.1 rfl).2⟩, fa.2⟩
  refine ⟨fun b u e => ?_, r.g0, by rw [List.length_set]; exact r.lσ, by rw [List.length_set, List.length_set]; exact r.lρ, ?_, fun a ha => ?_, fun g hg => (r.gh g hg).map fun _ _ x => key x, fun j fj h => ?_, fun j cj fj h => ?_, fun j cj fj h ha => ?_⟩
  · have : b ≠ p := fun z => by subst z; rw [e3] at e; cases e
    rw [upd_ne this]
    exact r.ext b u e
  · intro j k cj fj ck fk q h1 h2 h3 h4
    have g : ∀ {j : Nat} {cj : Ct} {fj : Bool}, (Δ.set i (Kd.own c' fr'))[j]? = some (Kd.own cj fj) → ∃ (cj : Ct) (fj : Bool), Δ[j]? = some (Kd.own cj fj) := fun {j cj fj} h => by
      by_cases z : i = j
      · subst z; exact ⟨_, _, hk⟩
      · rw [List.getElem?_set_ne z] at h; exact ⟨_, _, h⟩
    obtain ⟨_, _, g1⟩ := g h1
    obtain ⟨_, _, g2⟩ := g h2
    exact r.inj j k _ _ _ _ q g1 g2 h3 h4
  · obtain ⟨⟨u, hu, mu⟩, no⟩ := r.pin a ha
    have na : a ≠ p := fun z => no (z ▸ owp)
    exact ⟨⟨u, by rw [upd_ne na]; exact hu, mu⟩, fun z => no ((ow' a).mp z)⟩
  · by_cases z : i = j
    · subst z
      rw [List.getElem?_set_self hi] at h
      cases h
    · rw [List.getElem?_set_ne z] at h
      obtain ⟨v, d, h1, h2, h3⟩ := r.im j fj h
      exact ⟨v, d, h1, by rw [List.getElem?_set_ne z]; exact h2, key h3⟩
  · by_cases z : i = j
    · subst z
      rw [List.getElem?_set_self hi] at h
      cases h
      exact ⟨p, d, hs, by rw [List.getElem?_set_self (by rw [r.lρ]; exact hi)], e3, new.map (fun o e => e) fun _ _ x => key2 x⟩
    · rw [List.getElem?_set_ne z] at h
      obtain ⟨q, d, h1, h2, h3, h4⟩ := r.ow j cj fj h
      have nq : q ≠ p := fun y => z (r.inj i j _ _ _ _ p hk h hs (y ▸ h1))
      exact ⟨q, d, h1, by rw [List.getElem?_set_ne z]; exact h2, h3, h4.map (fun u e => by rw [upd_ne nq]; exact e) fun _ _ x => key x⟩
  · by_cases z : i = j
    · subst z
      rw [List.getElem?_set_self hi] at h
      cases h
      exact r.ar i c fr hk (hc ha)
    · rw [List.getElem?_set_ne z] at h
      exact r.ar j cj fj h ha

/-- slot i gets a value; or is forgotten -/
theorem R.setIm {fr : Bool} (r : R K f Δ ρ σ H) (hi : i < Δ.length) (h : Rp K (FM f Δ σ true fr) H v d) : R K f (Δ.set i (.im fr)) (ρ.set i d) (σ.set i (some v)) H := by
  have ow' : ∀ a, Ow (Δ.set i (.im fr)) (σ.set i (some v)) a → Ow Δ σ a := fun a => by
    rintro ⟨j, cj, fj, h1, h2⟩
    by_cases z : i = j
    · subst z
      rw [List.getElem?_set_self hi] at h1
      cases h1
    · rw [List.getElem?_set_ne z] at h1 h2
      exact ⟨j, cj, fj, h1, h2⟩
  have key : ∀ {fr' : Bool} {v' : V} {d' : Dt}, Rp K (FM f Δ σ true fr') H v' d' → Rp K (FM f (Δ.set i (.im fr)) (σ.set i (some v)) true fr') H v' d' := fun h =>
    h.weak fun a fa => ⟨fun _ => ⟨fun z => (fa.1 rfl).1 (ow' a z), (fa.1 rfl).2⟩, fa.2⟩
  refine ⟨r.ext, r.g0, by rw [List.length_set, List.length_set]; exact r.lσ, by rw [List.length_set, List.length_set]; exact r.lρ, ?_, fun a ha => ⟨(r.pin a ha).1, fun z => (r.pin a ha).2 (ow' a z)⟩, fun g hg => (r.gh g hg).map fun _ _ x => key x, fun j fj h' => ?_, fun j cj fj h' => ?_, fun j cj fj h' ha => ?_⟩
  · intro j k cj fj ck fk q h1 h2 h3 h4
    have g : ∀ {j : Nat} {cj : Ct} {fj : Bool}, (Δ.set i (Kd.im fr))[j]? = some (Kd.own cj fj) → i ≠ j ∧ Δ[j]? = some (Kd.own cj fj) := fun {j cj fj} h => by
      by_cases z : i = j
      · subst z; rw [List.getElem?_set_self hi] at h; cases h
      · rw [List.getElem?_set_ne z] at h; exact ⟨z, h⟩
    obtain ⟨z1, g1⟩ := g h1
    obtain ⟨z2, g2⟩ := g h2
    rw [List.getElem?_set_ne z1] at h3
    rw [List.getElem?_set_ne z2] at h4
    exact r.inj j k _ _ _ _ q g1 g2 h3 h4
  · by_cases z : i = j
    · subst z
      rw [List.getElem?_set_self hi] at h'
      cases h'
      exact ⟨v, d, by rw [List.getElem?_set_self (by rw [r.lσ]; exact hi)], by rw [List.getElem?_set_self (by rw [r.lρ]; exact hi)], key h⟩
    · rw [List.getElem?_set_ne z] at h'
      obtain ⟨v', d', h1, h2, h3⟩ := r.im j fj h'
      exact ⟨v', d', by rw [List.getElem?_set_ne z]; exact h1, by rw [List.getElem?_set_ne z]; exact h2, key h3⟩
  · by_cases z : i = j
    · subst z
      rw [List.getElem?_set_self hi] at h'
      cases h'
    · rw [List.getElem?_set_ne z] at h'
      obtain ⟨q, d', h1, h2, h3, h4⟩ := r.ow j cj fj h'
      exact ⟨q, d', by rw [List.getElem?_set_ne z]; exact h1, by rw [List.getElem?_set_ne z]; exact h2, h3, h4.map (fun u e => e) fun _ _ x => key x⟩
  · by_cases z : i = j
    · subst z
      rw [List.getElem?_set_self hi] at h'
      cases h'
    · rw [List.getElem?_set_ne z] at h'
      obtain ⟨p, h1, h2⟩ := r.ar j cj fj h' ha
      exact ⟨p, h1, by rw [List.getElem?_set_ne z]; exact h2⟩

/-- slot i gets a new object of its own -/
theorem R.setOwn {c : Ct} {fr : Bool} (r0 : R K f Δ ρ σ H) (hi : i < Δ.length) (hp : H p = none) (e : Same H H') (h : OwC K c (fun a => FM f Δ σ true fr a ∧ a ≠ p) H' p d) (hc : isArg c = false := by rfl) :
    R K f (Δ.set i (.own c fr)) (ρ.set i d) (σ.set i (some (.ref p))) H' := by
  have r := r0.mono e
  obtain ⟨f1, f2, f3⟩ := r0.fresh hp
  have ow' : ∀ a, Ow (Δ.set i (.own c fr)) (σ.set i (some (.ref p))) a → Ow Δ σ a ∨ a = p := fun a => by
    rintro ⟨j, cj, fj, h1, h2⟩
    by_cases z : i = j
    · subst z
      rw [List.getElem?_set_self (by rw [r.lσ]; exact hi)] at h2
      cases h2
      exact .inr rfl
    · rw [List.getElem?_set_ne z] at h1 h2
      exact .inl ⟨j, cj, fj, h1, h2⟩
  have key : ∀ {fr' : Bool} {v' : V} {d' : Dt}, Rp K (FM f Δ σ true fr') H v' d' → Rp K (FM f (Δ.set i (.own c fr)) (σ.set i (some (.ref p))) true fr') H' v' d' := fun h =>
    h.mono e fun a fa na => ⟨fun _ => ⟨fun z => by
      rcases ow' a z with z | z
      · exact (fa.1 rfl).1 z
      · exact na (z ▸ hp), (fa.1 rfl).2⟩, fa.2⟩
  have keyN : ∀ {fr' : Bool} {v' : V} {d' : Dt}, Rp K (fun a => FM f Δ σ true fr' a ∧ a ≠ p) H' v' d' → Rp K (FM f (Δ.set i (.own c fr)) (σ.set i (some (.ref p))) true fr') H' v' d' := fun h =>
    h.weak fun a fa => ⟨fun _ => ⟨fun z => by
      rcases ow' a z with z | z
      · exact (fa.1.1 rfl).1 z
      · exact fa.2 z, (fa.1.1 rfl).2⟩, fa.1.2⟩
  refine ⟨r.ext, r.g0, by rw [List.length_set, List.length_set]; exact r.lσ, by rw [List.length_set, List.length_set]; exact r.lρ, ?_, fun a ha => ⟨(r.pin a ha).1, fun z => ?_⟩, fun g hg => (r0.gh g hg).map fun _ _ x => key x, fun j fj h' => ?_, fun j cj fj h' => ?_, fun j cj fj h' ha => ?_⟩
  · have g : ∀ {j : Nat} {cj : Ct} {fj : Bool} {q : Addr}, (Δ.set i (Kd.own c fr))[j]? = some (Kd.own cj fj) → (σ.set i (some (V.ref p)))[j]? = some (some (V.ref q)) → (i = j ∧ q = p) ∨ (i ≠ j ∧ Δ[j]? = some (Kd.own cj fj) ∧ σ[j]? = some (some (V.ref q)) ∧ q ≠ p) := fun {j cj fj q} h h2 => by
      by_cases z : i = j
      · subst z
        rw [List.getElem?_set_self (by rw [r.lσ]; exact hi)] at h2
        cases h2
        exact .inl ⟨rfl, rfl⟩
      · rw [List.getElem?_set_ne z] at h h2
        exact .inr ⟨z, h, h2, fun y => f1 ⟨j, cj, fj, h, y ▸ h2⟩⟩
    intro j k cj fj ck fk q h1 h2 h3 h4
    rcases g h1 h3 with ⟨a1, b1⟩ | ⟨a1, b1, c1, d1⟩
    · rcases g h2 h4 with ⟨a2, b2⟩ | ⟨a2, b2, c2, d2⟩
      · exact a1 ▸ a2
      · exact (d2 b1).elim
    · rcases g h2 h4 with ⟨a2, b2⟩ | ⟨a2, b2, c2, d2⟩
      · exact (d1 b2).elim
      · exact r.inj j k _ _ _ _ q b1 b2 c1 c2
  · rcases ow' a z with z | z
    · exact (r0.pin a ha).2 z
    · exact f2 (z ▸ ha)
  · by_cases z : i = j
    · subst z
      rw [List.getElem?_set_self hi] at h'
      cases h'
    · rw [List.getElem?_set_ne z] at h'
      obtain ⟨v', d', h1, h2, h3⟩ := r0.im j fj h'
      exact ⟨v', d', by rw [List.getElem?_set_ne z]; exact h1, by rw [List.getElem?_set_ne z]; exact h2, key h3⟩
  · by_cases z : i = j
    · subst z
      rw [List.getElem?_set_self hi] at h'
      cases h'
      exact ⟨p, d, by rw [List.getElem?_set_self (by rw [r.lσ]; exact hi)], by rw [List.getElem?_set_self (by rw [r.lρ]; exact hi)], f3, h.map (fun o e => e) fun _ _ x => keyN x⟩
    · rw [List.getElem?_set_ne z] at h'
      obtain ⟨q, d', h1, h2, h3, h4⟩ := r0.ow j cj fj h'
      exact ⟨q, d', by rw [List.getElem?_set_ne z]; exact h1, by rw [List.getElem?_set_ne z]; exact h2, h3, h4.map (fun u x => e _ _ x) fun _ _ x => key x⟩
  · by_cases z : i = j
    · subst z
      rw [List.getElem?_set_self hi] at h'
      cases h'
      rw [hc] at ha
      cases ha
    · rw [List.getElem?_set_ne z] at h'
      obtain ⟨p, h1, h2⟩ := r0.ar j cj fj h' ha
      exact ⟨p, h1, by rw [List.getElem?_set_ne z]; exact h2⟩
end
end Sim
end T_SimA

section T_SimB
set_option Elab.async false
set_option linter.all false
set_option maxRecDepth 100000
/-! SimB: expressions. -/
namespace Sim
open PySem PySem.Spec L2
open PyProof.Rows hiding St

abbrev Wt := Exn → L2.St → Hp → Prop
abbrev Gd := List Dt → O Dt
inductive Rk where
  | v (av fr : Bool) | o (fr : Bool) | new (c : Ct) (fr : Bool)

def PoE (K : PySem.W.Frag) (W : Wt) (f : Fm) (Δ : List Kd) (σ : L2.St) (H : Hp) (k : Rk) (o : O Dt) (Q : VK) : Prop := match o with
  | .bad => False
  | .ex e => ∀ H', Same H H' → W e σ H'
  | .ok d => match k with
    | .v av fr => ∀ v H', Same H H' → Rp K (FM f Δ σ av fr) H' v d → Q v H'
    | .o fr => ∀ p H' vs ds, d = .list ds → Same H H' → H' p = some (.lst vs) → f.G p → RpA K (FM f Δ σ true fr) H' vs ds → Q (.ref p) H'
    | .new c fr => ∀ p H', H p = none → Same H H' → OwC K c (fun a => FM f Δ σ true fr a ∧ a ≠ p) H' p d → Q (.ref p) H'
def SE (K : PySem.W.Frag) (W : Wt) (Δ : List Kd) (te : TE) (k : Rk) (g : Gd) : Prop := ∀ f ρ σ H Q, R K f Δ ρ σ H → PoE K W f Δ σ H k (g ρ) Q → te σ H Q
def PoT (W : Wt) (σ : L2.St) (H : Hp) (o : O Bool) (Q : Bool → Hp → Prop) : Prop := match o with
  | .bad => False
  | .ex e => ∀ H', Same H H' → W e σ H'
  | .ok b => ∀ H', Same H H' → Q b H'
def ST (K : PySem.W.Frag) (W : Wt) (Δ : List Kd) (tt : TT) (g : List Dt → O Bool) : Prop := ∀ f ρ σ H Q, R K f Δ ρ σ H → PoT W σ H (g ρ) Q → tt σ H Q
def PoA (K : PySem.W.Frag) (W : Wt) (f : Fm) (Δ : List Kd) (σ : L2.St) (H : Hp) (av fr : Bool) (o : O (List Dt)) (Q : List V → Hp → Prop) : Prop := match o with
  | .bad => False
  | .ex e => ∀ H', Same H H' → W e σ H'
  | .ok ds => ∀ vs H', Same H H' → RpA K (FM f Δ σ av fr) H' vs ds → Q vs H'
def SA (K : PySem.W.Frag) (W : Wt) (Δ : List Kd) (ta : TA) (av fr : Bool) (g : List Dt → O (List Dt)) : Prop := ∀ f ρ σ H Q, R K f Δ ρ σ H → PoA K W f Δ σ H av fr (g ρ) Q → ta σ H Q

/-! ### the closures -/
def gVar (i : Nat) : Gd := fun ρ => match ρ[i]? with
  | some d => .ok d
  | none => .bad
def gC (d : Dt) : Gd := fun _ => .ok d
def gOp (h : Dt → Dt → O Dt) (a b : Gd) : Gd := fun ρ => bnd (a ρ) fun x => bnd (b ρ) fun y => h x y
def gUn (h : Dt → O Dt) (a : Gd) : Gd := fun ρ => bnd (a ρ) h
def gNil : List Dt → O (List Dt) := fun _ => .ok []
def gCons (a : Gd) (b : List Dt → O (List Dt)) : List Dt → O (List Dt) := fun ρ => bnd (a ρ) fun x => bnd (b ρ) fun xs => .ok (x :: xs)
def gTup (a : List Dt → O (List Dt)) : Gd := fun ρ => bnd (a ρ) fun xs => if xs.length ≤ 100000 then .ok (.tuple xs) else .bad
def gLst (a : List Dt → O (List Dt)) : Gd := fun ρ => bnd (a ρ) fun xs => if xs.length ≤ 100000 then .ok (.list xs) else .bad
def gPur (a : Gd) : Gd := fun ρ => bnd (a ρ) fun d => if pure1 d then .ok d else .bad
def pureIn : Dt → Bool
  | .list xs => pureA xs
  | d => pure1 d
def gPurN (a : Gd) : Gd := fun ρ => bnd (a ρ) fun d => if pureIn d then .ok d else .bad
def gIf (t : List Dt → O Bool) (a b : Gd) : Gd := fun ρ => bnd (t ρ) fun c => if c then a ρ else b ρ
def asB : Dt → O Bool
  | .bool b => .ok b
  | _ => .bad
def gTest (a : Gd) : List Dt → O Bool := fun ρ => bnd (a ρ) asB
def gNot (t : List Dt → O Bool) : List Dt → O Bool := fun ρ => bnd (t ρ) fun b => .ok (!b)
def gAnd (t u : List Dt → O Bool) : List Dt → O Bool := fun ρ => bnd (t ρ) fun b => if b then u ρ else .ok false
def gOr (t u : List Dt → O Bool) : List Dt → O Bool := fun ρ => bnd (t ρ) fun b => if b then .ok true else u ρ
def gAndV (a b : Gd) : Gd := fun ρ => bnd (a ρ) fun x => bnd (asB x) fun c => if c then b ρ else .ok (.bool false)
def gOrV (a b : Gd) : Gd := fun ρ => bnd (a ρ) fun x => bnd (asB x) fun c => if c then .ok (.bool true) else b ρ
def gNotV (a : Gd) : Gd := fun ρ => bnd (a ρ) fun x => bnd (asB x) fun c => .ok (.bool (!c))
def gCB (h : List Dt → O Dt) (a : List Dt → O (List Dt)) : Gd := fun ρ => bnd (a ρ) h
/-- scalars -/
def scl : Dt → Bool
  | .none => true
  | .bool _ => true
  | .int _ => true
  | .str _ => true
  | _ => false

section
variable {K : PySem.W.Frag} {W : Wt} {Δ : List Kd} {ta tb te : TE} {tt tu : TT} {tA tB' : TA} {ga gb g : Gd} {gt gu : List Dt → O Bool} {gA : List Dt → O (List Dt)} {k k1 k2 : Rk} {av fr av' fr' : Bool}

theorem Rp.scl_any {F F' : Addr → Prop} {H H' : Hp} {v : V} {d : Dt} (h : Rp K F H v d) (s : scl d = true) : Rp K F' H' v d := by
  cases h with
  | non => exact .non
  | bl b => exact .bl b
  | int i => exact .int i
  | str x => exact .str x
  | lst => cases s
  | fz => cases s
  | tup => cases s
  | dic => cases s

/-! ### names and constants -/
theorem se_var {i : Nat} (hk : Δ[i]? = some (.im fr)) : SE K W Δ (tVar i) (.v true fr) (gVar i) := fun f ρ σ H Q r q => by
  obtain ⟨v, d, h1, h2, h3⟩ := r.im i fr hk
  unfold gVar at q
  rw [h2] at q
  exact ⟨v, h1, q v H (Same.refl H) h3⟩
theorem se_own {i : Nat} (hk : Δ[i]? = some (.own .l fr)) : SE K W Δ (tVar i) (.o fr) (gVar i) := fun f ρ σ H Q r q => by
  obtain ⟨p, d, h1, h2, h3, vs, ds, e, h4, h5⟩ := r.ow i .l fr hk
  subst e
  unfold gVar at q
  rw [h2] at q
  exact ⟨_, h1, q p H vs ds rfl (Same.refl H) h4 (r.g0 p h3) h5⟩
theorem se_c {v : V} {d : Dt} (h : Rp K (fun _ => False) (fun _ => none) v d) (s : scl d = true) : SE K W Δ (tC v) (.v true true) (gC d) := fun f ρ σ H Q r q =>
  q v H (Same.refl H) (h.scl_any s)
theorem se_int {i : Int} : SE K W Δ (tC (.int i)) (.v true true) (gC (.int i)) := se_c (.int i) rfl
theorem se_str {x : Str} : SE K W Δ (tC (.str x)) (.v true true) (gC (.str x)) := se_c (.str x) rfl
theorem se_bl {b : Bool} : SE K W Δ (tC (.bl b)) (.v true true) (gC (.bool b)) := se_c (.bl b) rfl
theorem se_non : SE K W Δ (tC .non) (.v true true) (gC .none) := se_c .non rfl

/-! ### weakening -/
theorem Rp.fm {f : Fm} {σ : L2.St} {H : Hp} {v : V} {d : Dt} (h1 : av' = true → av = true) (h2 : fr' = true → fr = true) (h : Rp K (FM f Δ σ av fr) H v d) : Rp K (FM f Δ σ av' fr') H v d := h.weak fun _ x => x.weak h1 h2
theorem SE.wk (h : SE K W Δ te (.v av fr) g) (h1 : av' = true → av = true := by decide) (h2 : fr' = true → fr = true := by decide) : SE K W Δ te (.v av' fr') g := fun f ρ σ H Q r q =>
  h f ρ σ H Q r <| by
    cases e : g ρ with
    | bad => rw [e] at q; exact q
    | ex z => rw [e] at q; exact q
    | ok d => rw [e] at q; exact fun v H' s x => q v H' s (x.fm h1 h2)
theorem SE.ov (h : SE K W Δ te (.o fr) g) : SE K W Δ te (.v false fr) g := fun f ρ σ H Q r q =>
  h f ρ σ H Q r <| by
    cases e : g ρ with
    | bad => rw [e] at q; exact q
    | ex z => rw [e] at q; exact q
    | ok d =>
      rw [e] at q
      intro p H' vs ds ed s hp gp x
      subst ed
      exact q _ H' s (.lst hp ⟨(nomatch ·), fun _ => gp⟩ (x.weak fun _ y => y.weak (fun _ => rfl) id))
theorem SE.nv (h : SE K W Δ te (.new .l fr) g) : SE K W Δ te (.v true fr) g := fun f ρ σ H Q r q =>
  h f ρ σ H Q r <| by
    cases e : g ρ with
    | bad => rw [e] at q; exact q
    | ex z => rw [e] at q; exact q
    | ok d =>
      rw [e] at q
      intro p H' np s x
      obtain ⟨vs, ds, ed, hp, x⟩ := x
      subst ed
      obtain ⟨f1, f2, f3⟩ := r.fresh np
      exact q _ H' s (.lst hp ⟨fun _ => ⟨f1, f2⟩, fun _ => r.g0 p f3⟩ (x.weak fun _ y => y.1))
theorem SE.no (h : SE K W Δ te (.new .l fr) g) : SE K W Δ te (.o fr) g := fun f ρ σ H Q r q =>
  h f ρ σ H Q r <| by
    cases e : g ρ with
    | bad => rw [e] at q; exact q
    | ex z => rw [e] at q; exact q
    | ok d =>
      rw [e] at q
      intro p H' np s x
      obtain ⟨vs, ds, ed, hp, x⟩ := x
      subst ed
      obtain ⟨f1, f2, f3⟩ := r.fresh np
      exact q _ H' vs ds rfl s hp (r.g0 p f3) (x.weak fun _ y => y.1)
theorem SE.pur (h : SE K W Δ te (.v av fr) g) : SE K W Δ te (.v true true) (gPur g) := fun f ρ σ H Q r q =>
  h f ρ σ H Q r <| by
    unfold gPur at q
    cases e : g ρ with
    | bad => rw [e] at q; exact q
    | ex z => rw [e] at q; exact q
    | ok d =>
      rw [e, bnd_ok] at q
      intro v H' s x
      by_cases p : pure1 d = true
      · rw [if_pos p] at q
        exact q v H' s (x.pure p)
      · rw [if_neg p] at q
        exact q.elim
theorem pureIn_list {ds : List Dt} : pureIn (.list ds) = pureA ds := rfl
theorem SE.purN (h : SE K W Δ te (.new .l fr) g) : SE K W Δ te (.new .l true) (gPurN g) := fun f ρ σ H Q r q =>
  h f ρ σ H Q r <| by
    unfold gPurN at q
    cases e : g ρ with
    | bad => rw [e] at q; exact q
    | ex z => rw [e] at q; exact q
    | ok d =>
      rw [e, bnd_ok] at q
      intro p H' np s x
      obtain ⟨vs, ds, ed, hp, x⟩ := x
      subst ed
      rw [pureIn_list] at q
      by_cases pp : pureA ds = true
      · rw [if_pos pp] at q
        exact q p H' np s ⟨vs, ds, rfl, hp, x.pure pp⟩
      · rw [if_neg pp] at q
        exact q.elim
theorem SE.purO (h : SE K W Δ te (.o fr) g) : SE K W Δ te (.o true) (gPurN g) := fun f ρ σ H Q r q =>
  h f ρ σ H Q r <| by
    unfold gPurN at q
    cases e : g ρ with
    | bad => rw [e] at q; exact q
    | ex z => rw [e] at q; exact q
    | ok d =>
      rw [e, bnd_ok] at q
      intro p H' vs ds ed s hp gp x
      subst ed
      rw [pureIn_list] at q
      by_cases pp : pureA ds = true
      · rw [if_pos pp] at q
        exact q p H' vs ds rfl s hp gp (x.pure pp)
      · rw [if_neg pp] at q
        exact q.elim

/-! ### operators on two, on one: the answer a scalar -/
def OSc (K : PySem.W.Frag) (r : R2) (h : Dt → Dt → O Dt) : Prop := ∀ H x y d e Q, Rp K (fun _ => True) H x d → Rp K (fun _ => True) H y e →
  (match h d e with | .ok z => scl z = true ∧ (∀ v, Rp K (fun _ => False) (fun _ => none) v z → Q v H) | _ => False) → r x y H Q
def USc (K : PySem.W.Frag) (r : V → Hp → VK → Prop) (h : Dt → O Dt) : Prop := ∀ H x d Q, Rp K (fun _ => True) H x d →
  (match h d with | .ok z => scl z = true ∧ (∀ v, Rp K (fun _ => False) (fun _ => none) v z → Q v H) | _ => False) → r x H Q
def CSc (K : PySem.W.Frag) (r : List V → Hp → VK → Prop) (h : List Dt → O Dt) : Prop := ∀ H xs ds Q, RpA K (fun _ => True) H xs ds →
  (match h ds with | .ok z => scl z = true ∧ (∀ v, Rp K (fun _ => False) (fun _ => none) v z → Q v H) | _ => False) → r xs H Q
/-- h gives scalars or nothing -/
def Scl2 (h : Dt → Dt → O Dt) : Prop := ∀ d e, (∃ z, h d e = .ok z ∧ scl z = true) ∨ h d e = .bad
def Scl1 (h : Dt → O Dt) : Prop := ∀ d, (∃ z, h d = .ok z ∧ scl z = true) ∨ h d = .bad
def SclA (h : List Dt → O Dt) : Prop := ∀ d, (∃ z, h d = .ok z ∧ scl z = true) ∨ h d = .bad

theorem se_op {r : R2} {h : Dt → Dt → O Dt} (hs : Scl2 h) (ho : OSc K r h) (ha : SE K W Δ ta (.v av fr) ga) (hb : SE K W Δ tb (.v av' fr') gb) : SE K W Δ (tOp r ta tb) (.v true true) (gOp h ga gb) := fun f ρ σ H Q R q => by
  refine ha f ρ σ H _ R ?_
  unfold gOp at q
  cases e1 : ga ρ with
  | bad => rw [e1] at q; exact q
  | ex z => rw [e1] at q; exact q
  | ok d =>
    rw [e1, bnd_ok] at q
    intro v H1 s1 x1
    refine hb f ρ σ H1 _ (R.mono s1) ?_
    cases e2 : gb ρ with
    | bad => rw [e2] at q; exact q
    | ex z => rw [e2] at q; exact fun H' s => q H' (s1.trans s)
    | ok d2 =>
      rw [e2, bnd_ok] at q
      intro v2 H2 s2 x2
      refine ho H2 v v2 d d2 Q ((x1.same s2).weak fun _ _ => trivial) (x2.weak fun _ _ => trivial) ?_
      rcases hs d d2 with ⟨z, ez, sz⟩ | ez
      · rw [ez] at q ⊢
        exact ⟨sz, fun w x => q w H2 (s1.trans s2) (x.scl_any sz)⟩
      · rw [ez] at q
        exact q.elim
theorem se_un {r : V → Hp → VK → Prop} {h : Dt → O Dt} (hs : Scl1 h) (ho : USc K r h) (ha : SE K W Δ ta (.v av fr) ga) : SE K W Δ (tUn r ta) (.v true true) (gUn h ga) := fun f ρ σ H Q R q => by
  refine ha f ρ σ H _ R ?_
  unfold gUn at q
  cases e1 : ga ρ with
  | bad => rw [e1] at q; exact q
  | ex z => rw [e1] at q; exact q
  | ok d =>
    rw [e1, bnd_ok] at q
    intro v H1 s1 x1
    refine ho H1 v d Q (x1.weak fun _ _ => trivial) ?_
    rcases hs d with ⟨z, ez, sz⟩ | ez
    · rw [ez] at q ⊢
      exact ⟨sz, fun w x => q w H1 s1 (x.scl_any sz)⟩
    · rw [ez] at q
      exact q.elim
theorem se_cb {r : List V → Hp → VK → Prop} {h : List Dt → O Dt} (hs : SclA h) (ho : CSc K r h) (ha : SA K W Δ tA av fr gA) : SE K W Δ (tCB r tA) (.v true true) (gCB h gA) := fun f ρ σ H Q R q => by
  refine ha f ρ σ H _ R ?_
  unfold gCB at q
  cases e1 : gA ρ with
  | bad => rw [e1] at q; exact q
  | ex z => rw [e1] at q; exact q
  | ok d =>
    rw [e1, bnd_ok] at q
    intro v H1 s1 x1
    refine ho H1 v d Q (x1.weak fun _ _ => trivial) ?_
    rcases hs d with ⟨z, ez, sz⟩ | ez
    · rw [ez] at q ⊢
      exact ⟨sz, fun w x => q w H1 s1 (x.scl_any sz)⟩
    · rw [ez] at q
      exact q.elim

/-! ### argument lists, tuples, lists -/
theorem sa_nil : SA K W Δ tNil true true gNil := fun f ρ σ H Q R q => q [] H (Same.refl H) .nil
theorem sa_cons (ha : SE K W Δ ta (.v av fr) ga) (hr : SA K W Δ tA av' fr' gA) : SA K W Δ (tCons ta tA) (av && av') (fr && fr') (gCons ga gA) := fun f ρ σ H Q R q => by
  refine ha f ρ σ H _ R ?_
  unfold gCons at q
  cases e1 : ga ρ with
  | bad => rw [e1] at q; exact q
  | ex z => rw [e1] at q; exact q
  | ok d =>
    rw [e1, bnd_ok] at q
    intro v H1 s1 x1
    refine hr f ρ σ H1 _ (R.mono s1) ?_
    cases e2 : gA ρ with
    | bad => rw [e2] at q; exact q
    | ex z => rw [e2] at q; exact fun H' s => q H' (s1.trans s)
    | ok ds =>
      rw [e2, bnd_ok] at q
      intro vs H2 s2 x2
      exact q (v :: vs) H2 (s1.trans s2) (.cons ((x1.same s2).fm (fun h => (Bool.and_eq_true_iff.mp h).1) fun h => (Bool.and_eq_true_iff.mp h).1)
        (x2.weak fun _ y => y.weak (fun h => (Bool.and_eq_true_iff.mp h).2) fun h => (Bool.and_eq_true_iff.mp h).2))
theorem SA.wk (h : SA K W Δ tA av fr gA) (h1 : av' = true → av = true := by decide) (h2 : fr' = true → fr = true := by decide) : SA K W Δ tA av' fr' gA := fun f ρ σ H Q R q =>
  h f ρ σ H Q R <| by
    cases e : gA ρ with
    | bad => rw [e] at q; exact q
    | ex z => rw [e] at q; exact q
    | ok d => rw [e] at q; exact fun v H' s x => q v H' s (x.weak fun _ y => y.weak h1 h2)
theorem sz_le {n : Nat} (h : n ≤ 100000) : n ≤ sizeLine := Nat.le_trans h (by decide)
theorem same_upd {H : Hp} {p : Addr} {o : HO} (h : H p = none) : Same H (upd H p o) := fun b x e => by
  rw [upd_ne (ne_of_none e h)]
  exact e
theorem se_tup (ha : SA K W Δ tA av fr gA) : SE K W Δ (tTup tA) (.v av fr) (gTup gA) := fun f ρ σ H Q R q => by
  refine ha f ρ σ H _ R ?_
  unfold gTup at q
  cases e1 : gA ρ with
  | bad => rw [e1] at q; exact q
  | ex z => rw [e1] at q; exact q
  | ok ds =>
    rw [e1, bnd_ok] at q
    intro vs H1 s1 x1
    by_cases l : ds.length ≤ 100000
    · rw [if_pos l] at q
      refine ⟨by rw [x1.length]; exact sz_le l, fun p np => ?_⟩
      exact q _ _ (s1.trans (same_upd np)) (.tup (.inl (.inl upd_same)) (x1.same (same_upd np)))
    · rw [if_neg l] at q
      exact q.elim
theorem se_lst (ha : SA K W Δ tA true fr gA) : SE K W Δ (tLst tA) (.new .l fr) (gLst gA) := fun f ρ σ H Q R q => by
  refine ha f ρ σ H _ R ?_
  unfold gLst at q
  cases e1 : gA ρ with
  | bad => rw [e1] at q; exact q
  | ex z => rw [e1] at q; exact q
  | ok ds =>
    rw [e1, bnd_ok] at q
    intro vs H1 s1 x1
    by_cases l : ds.length ≤ 100000
    · rw [if_pos l] at q
      refine ⟨by rw [x1.length]; exact sz_le l, fun p np => ?_⟩
      refine q p _ (s1.free np) (s1.trans (same_upd np)) ⟨vs, ds, rfl, upd_same, x1.mono (same_upd np) fun a y z => ⟨y, fun e => z (e ▸ np)⟩⟩
    · rw [if_neg l] at q
      exact q.elim
/-- a list display of anything, only looked at -/
theorem se_lstv (ha : SA K W Δ tA av fr gA) : SE K W Δ (tLst tA) (.v av fr) (gLst gA) := fun f ρ σ H Q R q => by
  refine ha f ρ σ H _ R ?_
  unfold gLst at q
  cases e1 : gA ρ with
  | bad => rw [e1] at q; exact q
  | ex z => rw [e1] at q; exact q
  | ok ds =>
    rw [e1, bnd_ok] at q
    intro vs H1 s1 x1
    by_cases l : ds.length ≤ 100000
    · rw [if_pos l] at q
      refine ⟨by rw [x1.length]; exact sz_le l, fun p np => ?_⟩
      obtain ⟨f1, f2, f3⟩ := R.fresh (s1.free np)
      exact q _ _ (s1.trans (same_upd np)) (.lst upd_same ⟨fun _ => ⟨f1, f2⟩, fun _ => R.g0 p f3⟩ (x1.same (same_upd np)))
    · rw [if_neg l] at q
      exact q.elim

/-! ### tests -/
theorem st_test (ha : SE K W Δ te (.v av fr) g) : ST K W Δ (tTest te) (gTest g) := fun f ρ σ H Q R q => by
  refine ha f ρ σ H _ R ?_
  unfold gTest at q
  cases e1 : g ρ with
  | bad => rw [e1] at q; exact q
  | ex z => rw [e1] at q; exact q
  | ok d =>
    rw [e1, bnd_ok] at q
    intro v H1 s1 x1
    cases x1 with
    | bl b => exact ⟨b, rfl, q H1 s1⟩
    | non => exact q.elim
    | int => exact q.elim
    | str => exact q.elim
    | lst => exact q.elim
    | fz => exact q.elim
    | tup => exact q.elim
    | dic => exact q.elim
theorem st_B (ha : SE K W Δ te (.v av fr) g) : ST K W Δ (tB te) (gTest g) := st_test ha
theorem st_not (h : ST K W Δ tt gt) : ST K W Δ (tNot tt) (gNot gt) := fun f ρ σ H Q R q => by
  refine h f ρ σ H _ R ?_
  unfold gNot at q
  cases e1 : gt ρ with
  | bad => rw [e1] at q; exact q
  | ex z => rw [e1] at q; exact q
  | ok d => rw [e1, bnd_ok] at q; exact q
theorem st_and (h : ST K W Δ tt gt) (h2 : ST K W Δ tu gu) : ST K W Δ (tAnd tt tu) (gAnd gt gu) := fun f ρ σ H Q R q => by
  refine h f ρ σ H _ R ?_
  unfold gAnd at q
  cases e1 : gt ρ with
  | bad => rw [e1] at q; exact q
  | ex z => rw [e1] at q; exact q
  | ok b =>
    rw [e1, bnd_ok] at q
    intro H1 s1
    cases b with
    | false => exact q H1 s1
    | true =>
      refine h2 f ρ σ H1 _ (R.mono s1) ?_
      have q : PoT W σ H (gu ρ) Q := q
      cases e2 : gu ρ with
      | bad => rw [e2] at q; exact q
      | ex z => rw [e2] at q; exact fun H' s => q H' (s1.trans s)
      | ok b => rw [e2] at q; exact fun H' s => q H' (s1.trans s)
theorem st_or (h : ST K W Δ tt gt) (h2 : ST K W Δ tu gu) : ST K W Δ (tOr tt tu) (gOr gt gu) := fun f ρ σ H Q R q => by
  refine h f ρ σ H _ R ?_
  unfold gOr at q
  cases e1 : gt ρ with
  | bad => rw [e1] at q; exact q
  | ex z => rw [e1] at q; exact q
  | ok b =>
    rw [e1, bnd_ok] at q
    intro H1 s1
    cases b with
    | true => exact q H1 s1
    | false =>
      refine h2 f ρ σ H1 _ (R.mono s1) ?_
      have q : PoT W σ H (gu ρ) Q := q
      cases e2 : gu ρ with
      | bad => rw [e2] at q; exact q
      | ex z => rw [e2] at q; exact fun H' s => q H' (s1.trans s)
      | ok b => rw [e2] at q; exact fun H' s => q H' (s1.trans s)
theorem PoE.mono {f : Fm} {σ : L2.St} {H H' : Hp} {o : O Dt} {Q : VK} (s : Same H H') (h : PoE K W f Δ σ H k o Q) : PoE K W f Δ σ H' k o Q := by
  cases o with
  | bad => exact h
  | ex z => exact fun H2 s2 => h H2 (s.trans s2)
  | ok d =>
    cases k with
    | v av fr => exact fun v H2 s2 => h v H2 (s.trans s2)
    | o fr => exact fun p H2 vs ds e s2 => h p H2 vs ds e (s.trans s2)
    | new c fr => exact fun p H2 np s2 => h p H2 (s.free np) (s.trans s2)
theorem se_if (h : ST K W Δ tt gt) (ha : SE K W Δ ta k ga) (hb : SE K W Δ tb k gb) : SE K W Δ (tIf tt ta tb) k (gIf gt ga gb) := fun f ρ σ H Q R q => by
  refine h f ρ σ H _ R ?_
  unfold gIf at q
  cases e1 : gt ρ with
  | bad => rw [e1] at q; exact q
  | ex z => rw [e1] at q; exact q
  | ok b =>
    rw [e1, bnd_ok] at q
    intro H1 s1
    cases b with
    | true => exact ha f ρ σ H1 Q (R.mono s1) (PoE.mono s1 q)
    | false => exact hb f ρ σ H1 Q (R.mono s1) (PoE.mono s1 q)
theorem se_andV (ha : SE K W Δ ta (.v av fr) ga) (hb : SE K W Δ tb (.v true true) gb) : SE K W Δ (tAndV ta tb) (.v true true) (gAndV ga gb) := fun f ρ σ H Q R q => by
  refine ha f ρ σ H _ R ?_
  unfold gAndV at q
  cases e1 : ga ρ with
  | bad => rw [e1] at q; exact q
  | ex z => rw [e1] at q; exact q
  | ok d =>
    rw [e1, bnd_ok] at q
    intro v H1 s1 x1
    cases x1 with
    | bl b =>
      refine ⟨b, rfl, ?_⟩
      cases b with
      | true => exact hb f ρ σ H1 Q (R.mono s1) (PoE.mono s1 q)
      | false => exact q _ H1 s1 (.bl false)
    | non => exact q.elim
    | int => exact q.elim
    | str => exact q.elim
    | lst => exact q.elim
    | fz => exact q.elim
    | tup => exact q.elim
    | dic => exact q.elim
theorem se_orV (ha : SE K W Δ ta (.v av fr) ga) (hb : SE K W Δ tb (.v true true) gb) : SE K W Δ (tOrV ta tb) (.v true true) (gOrV ga gb) := fun f ρ σ H Q R q => by
  refine ha f ρ σ H _ R ?_
  unfold gOrV at q
  cases e1 : ga ρ with
  | bad => rw [e1] at q; exact q
  | ex z => rw [e1] at q; exact q
  | ok d =>
    rw [e1, bnd_ok] at q
    intro v H1 s1 x1
    cases x1 with
    | bl b =>
      refine ⟨b, rfl, ?_⟩
      cases b with
      | true => exact q _ H1 s1 (.bl true)
      | false => exact hb f ρ σ H1 Q (R.mono s1) (PoE.mono s1 q)
    | non => exact q.elim
    | int => exact q.elim
    | str => exact q.elim
    | lst => exact q.elim
    | fz => exact q.elim
    | tup => exact q.elim
    | dic => exact q.elim
theorem se_notV (ha : SE K W Δ ta (.v av fr) ga) : SE K W Δ (tNotV ta) (.v true true) (gNotV ga) := fun f ρ σ H Q R q => by
  refine ha f ρ σ H _ R ?_
  unfold gNotV at q
  cases e1 : ga ρ with
  | bad => rw [e1] at q; exact q
  | ex z => rw [e1] at q; exact q
  | ok d =>
    rw [e1, bnd_ok] at q
    intro v H1 s1 x1
    cases x1 with
    | bl b => exact ⟨b, rfl, q _ H1 s1 (.bl _)⟩
    | non => exact q.elim
    | int => exact q.elim
    | str => exact q.elim
    | lst => exact q.elim
    | fz => exact q.elim
    | tup => exact q.elim
    | dic => exact q.elim
end
end Sim
end T_SimB

section T_SimC
set_option Elab.async false
set_option linter.all false
set_option maxRecDepth 100000
/-! SimC: the rules by which an expression of the text gets its closure. -/
namespace Sim
open PySem PySem.Spec L2
open PyProof.Rows hiding St

structure PD (X : Cx) (K : PySem.W.Frag) (W : Wt) (Δ : List Kd) (e : Expr) (te : TE) (k : Rk) (g : Gd) : Prop where
  pe : PE X e te
  hK : X.K = K
  se : SE K W Δ te k g
structure TD (X : Cx) (K : PySem.W.Frag) (W : Wt) (Δ : List Kd) (e : Expr) (tt : TT) (g : List Dt → O Bool) : Prop where
  pt : PT X e tt
  hK : X.K = K
  st : ST K W Δ tt g
structure WD (X : Cx) (K : PySem.W.Frag) (W : Wt) (Δ : List Kd) (e : Expr) (tt : TT) (g : List Dt → O Bool) : Prop where
  pw : PW X e tt
  hK : X.K = K
  st : ST K W Δ tt g
structure AD (X : Cx) (K : PySem.W.Frag) (W : Wt) (Δ : List Kd) (es : List Expr) (ta : TA) (av fr : Bool) (g : List Dt → O (List Dt)) : Prop where
  pa : PA X es ta
  hK : X.K = K
  sa : SA K W Δ ta av fr g

/-! ### the closures of operators -/
def hI0 (g : Int → Int → Int) : Dt → Dt → O Dt := fun d e => match d, e with
  | .int i, .int j => .ok (.int (g i j))
  | _, _ => .bad
def hI (C : Int → Int → Bool) (g : Int → Int → Int) : Dt → Dt → O Dt := fun d e => match d, e with
  | .int i, .int j => if C i j then .ok (.int (g i j)) else .bad
  | _, _ => .bad
def hB0 (p : Int → Int → Bool) : Dt → Dt → O Dt := fun d e => match d, e with
  | .int i, .int j => .ok (.bool (p i j))
  | _, _ => .bad
def hU (g : Int → Int) : Dt → O Dt := fun d => match d with
  | .int i => .ok (.int (g i))
  | _ => .bad
def hAdd := hI0 fun i j => i + j
def hSub := hI0 fun i j => i - j
def cMul (i j : Int) : Bool := decide (i.natAbs < 2 ^ 64) || decide (j.natAbs < 2 ^ 64)
def hMul := hI cMul fun i j => i * j
def cDiv (_ j : Int) : Bool := decide (0 < j) && decide (j.natAbs < 2 ^ 400)
def hDiv := hI cDiv fun i j => i / j
def cMod (_ j : Int) : Bool := decide (0 < j)
def hMod := hI cMod fun i j => i % j
def cPow (i j : Int) : Bool := decide (0 ≤ j) && decide (j ≤ 1000000) && decide (i.natAbs < 2 ^ 64)
def hPow := hI cPow fun i j => i ^ j.toNat
def cShr (_ j : Int) : Bool := decide (0 ≤ j)
def hShr := hI cShr fun i j => i / 2 ^ j.toNat
def hBand := hI0 fun i j => Builtin.bitAnd i j
def hLt := hB0 fun i j => decide (i < j)
def hLe := hB0 fun i j => decide (i ≤ j)
def hGt := hB0 fun i j => decide (j < i)
def hGe := hB0 fun i j => decide (j ≤ i)
def hEq : Dt → Dt → O Dt := fun d e => if SeqAt.shaped d && SeqAt.shaped e then .ok (.bool (PyData.eqv d e)) else .bad
def hNe : Dt → Dt → O Dt := fun d e => if SeqAt.shaped d && SeqAt.shaped e then .ok (.bool (!PyData.eqv d e)) else .bad
def hIs : Dt → Dt → O Dt := fun d e => match e with
  | .none => .ok (.bool (match d with | .none => true | _ => false))
  | _ => .bad
def hIsNot : Dt → Dt → O Dt := fun d e => match e with
  | .none => .ok (.bool (match d with | .none => false | _ => true))
  | _ => .bad
def hIn : Dt → Dt → O Dt := fun d e => match e with
  | .list ds => if SeqAt.shaped d && SeqAt.shaped e then .ok (.bool (ds.any fun z => PyData.eqv z d)) else .bad
  | .tuple ds => if SeqAt.shaped d && SeqAt.shaped e then .ok (.bool (ds.any fun z => PyData.eqv z d)) else .bad
  | _ => .bad
def hNotIn : Dt → Dt → O Dt := fun d e => match e with
  | .list ds => if SeqAt.shaped d && SeqAt.shaped e then .ok (.bool (!ds.any fun z => PyData.eqv z d)) else .bad
  | .tuple ds => if SeqAt.shaped d && SeqAt.shaped e then .ok (.bool (!ds.any fun z => PyData.eqv z d)) else .bad
  | _ => .bad
def hLen : List Dt → O Dt := fun ds => match ds with
  | [.list xs] => .ok (.int xs.length)
  | [.tuple xs] => .ok (.int xs.length)
  | [.str x] => if x.length ≤ 100000 then .ok (.int x.length) else .bad
  | _ => .bad
def hMin2 : List Dt → O Dt := fun ds => match ds with
  | [.int i, .int j] => .ok (.int (if j < i then j else i))
  | _ => .bad
def hMax2 : List Dt → O Dt := fun ds => match ds with
  | [.int i, .int j] => .ok (.int (if j > i then j else i))
  | _ => .bad
def hMin3 : List Dt → O Dt := fun ds => match ds with
  | [.int i, .int j, .int k] => .ok (.int (if j < i then (if k < j then k else j) else (if k < i then k else i)))
  | _ => .bad
def hBits : Dt → O Dt := fun d => match d with
  | .int i => .ok (.int (Builtin.Int.intBits i : Nat))
  | _ => .bad
def hInt1 : List Dt → O Dt := fun ds => match ds with
  | [.int i] => .ok (.int i)
  | [.bool k] => .ok (.int (if k then 1 else 0))
  | _ => .bad
def allB : List Dt → Option (List Bool)
  | [] => some []
  | .bool b :: r => (allB r).map (b :: ·)
  | _ => none
def allI : List Dt → Option (List Int)
  | [] => some []
  | .int b :: r => (allI r).map (b :: ·)
  | _ => none
def hAll : List Dt → O Dt := fun ds => match ds with
  | [.list xs] => match allB xs with
    | some bs => .ok (.bool (bs.all id))
    | none => .bad
  | _ => .bad
def hAny : List Dt → O Dt := fun ds => match ds with
  | [.list xs] => match allB xs with
    | some bs => .ok (.bool (bs.any id))
    | none => .bad
  | _ => .bad
def hSum : List Dt → O Dt := fun ds => match ds with
  | [.list xs] => match allI xs with
    | some bs => .ok (.int bs.sum)
    | none => .bad
  | _ => .bad

section
variable {K : PySem.W.Frag}

theorem scl_I0 {g} : Scl2 (hI0 g) := fun d e => by cases d <;> cases e <;> first | exact .inr rfl | exact .inl ⟨_, rfl, rfl⟩
theorem scl_B0 {g} : Scl2 (hB0 g) := fun d e => by cases d <;> cases e <;> first | exact .inr rfl | exact .inl ⟨_, rfl, rfl⟩
theorem scl_I {C g} : Scl2 (hI C g) := fun d e => by
  cases d <;> cases e <;> first | exact .inr rfl | skip
  unfold hI
  simp only
  split
  · exact .inl ⟨_, rfl, rfl⟩
  · exact .inr rfl
theorem osc_I0 {g : Int → Int → Int} : OSc K (rI0 fun i j => .int (g i j)) (hI0 g) := fun H x y d e Q hx hy h => by
  cases hx <;> first | exact h.elim | skip
  cases hy <;> first | exact h.elim | skip
  exact ⟨_, _, rfl, rfl, h.2 _ (.int _)⟩
theorem osc_B0 {g : Int → Int → Bool} : OSc K (rI0 fun i j => .bl (g i j)) (hB0 g) := fun H x y d e Q hx hy h => by
  cases hx <;> first | exact h.elim | skip
  cases hy <;> first | exact h.elim | skip
  exact ⟨_, _, rfl, rfl, h.2 _ (.bl _)⟩
theorem osc_I {C : Int → Int → Bool} {C' : Int → Int → Prop} {g : Int → Int → Int} (hc : ∀ i j, C i j = true → C' i j) : OSc K (rI C' fun i j => .int (g i j)) (hI C g) := fun H x y d e Q hx hy h => by
  cases hx <;> first | exact h.elim | skip
  cases hy <;> first | exact h.elim | skip
  rename_i i j
  unfold hI at h
  simp only at h
  by_cases c : C i j = true
  · rw [if_pos c] at h
    exact ⟨_, _, rfl, rfl, hc _ _ c, h.2 _ (.int _)⟩
  · rw [if_neg c] at h
    exact h.elim
theorem usc_U {g : Int → Int} : USc K (rU fun i => .int (g i)) (hU g) := fun H x d Q hx h => by
  cases hx <;> first | exact h.elim | skip
  exact ⟨_, rfl, h.2 _ (.int _)⟩
theorem scl_U {g} : Scl1 (hU g) := fun d => by cases d <;> first | exact .inr rfl | exact .inl ⟨_, rfl, rfl⟩
theorem cMul_ok {i j : Int} (h : cMul i j = true) : CMul i j := by
  unfold cMul at h
  rw [Bool.or_eq_true, decide_eq_true_eq, decide_eq_true_eq] at h
  rcases h with h | h
  · exact .inl (by omega)
  · exact .inr (by omega)
theorem cDiv_ok {i j : Int} (h : cDiv i j = true) : CDivW i j := by
  unfold cDiv at h
  rw [Bool.and_eq_true, decide_eq_true_eq, decide_eq_true_eq] at h
  exact wide_div h.1 h.2 (by decide) (by decide)
theorem cMod_ok {i j : Int} (h : cMod i j = true) : 0 < j := by
  unfold cMod at h
  rw [decide_eq_true_eq] at h
  exact h
theorem cPow_ok {i j : Int} (h : cPow i j = true) : CPow i j := by
  unfold cPow at h
  rw [Bool.and_eq_true, Bool.and_eq_true, decide_eq_true_eq, decide_eq_true_eq, decide_eq_true_eq] at h
  exact ⟨h.1.1, h.1.2, h.2⟩
theorem cShr_ok {i j : Int} (h : cShr i j = true) : 0 ≤ j := by
  unfold cShr at h
  rw [decide_eq_true_eq] at h
  exact h
theorem scl_eq : Scl2 hEq := fun d e => by
  unfold hEq
  split
  · exact .inl ⟨_, rfl, rfl⟩
  · exact .inr rfl
theorem scl_ne : Scl2 hNe := fun d e => by
  unfold hNe
  split
  · exact .inl ⟨_, rfl, rfl⟩
  · exact .inr rfl
theorem osc_eq : OSc K (rEqD K) hEq := fun H x y d e Q hx hy h => by
  unfold hEq at h
  by_cases c : (SeqAt.shaped d && SeqAt.shaped e) = true
  · rw [if_pos c] at h
    rw [Bool.and_eq_true] at c
    exact ⟨d, e, hx.dp (shaped_lay c.1), hy.dp (shaped_lay c.2), c.1, c.2, h.2 _ (.bl _)⟩
  · rw [if_neg c] at h
    exact h.elim
theorem osc_ne : OSc K (rNeD K) hNe := fun H x y d e Q hx hy h => by
  unfold hNe at h
  by_cases c : (SeqAt.shaped d && SeqAt.shaped e) = true
  · rw [if_pos c] at h
    rw [Bool.and_eq_true] at c
    exact ⟨d, e, hx.dp (shaped_lay c.1), hy.dp (shaped_lay c.2), c.1, c.2, h.2 _ (.bl _)⟩
  · rw [if_neg c] at h
    exact h.elim
theorem scl_is : Scl2 hIs := fun d e => by cases e <;> first | exact .inr rfl | exact .inl ⟨_, rfl, rfl⟩
theorem scl_isNot : Scl2 hIsNot := fun d e => by cases e <;> first | exact .inr rfl | exact .inl ⟨_, rfl, rfl⟩
theorem osc_is : OSc K (fun x y H Q => y = .non ∧ Q (.bl (decide (x = .non))) H) hIs := fun H x y d e Q hx hy h => by
  cases hy <;> first | exact h.elim | skip
  refine ⟨rfl, h.2 _ ?_⟩
  cases hx <;> exact .bl _
theorem osc_isNot : OSc K (fun x y H Q => y = .non ∧ Q (.bl (!decide (x = .non))) H) hIsNot := fun H x y d e Q hx hy h => by
  cases hy <;> first | exact h.elim | skip
  refine ⟨rfl, h.2 _ ?_⟩
  cases hx <;> exact .bl _

/-! ### in, not in -/
def rInDT (K : PySem.W.Frag) (neg : Bool) : R2 := fun x y H Q => ∃ d e ds, Dp K H x d ∧ Dp K H y e ∧ (e = .list ds ∨ e = .tuple ds) ∧ SeqAt.shaped d = true ∧ SeqAt.shaped e = true ∧ Q (.bl (if neg then !ds.any fun z => PyData.eqv z d else ds.any fun z => PyData.eqv z d)) H
theorem room_in_any {A : Around} {d e : PyData} {ds : List PyData} (sd : SeqAt.shaped d = true) (hu : A.units + 65 < cLine) : A.units + 1 + min (PyData.depthAll ds) d.depth < cLine := by
  have h1 := SeqAt.depth_of_shaped sd
  have h2 : min (PyData.depthAll ds) d.depth ≤ d.depth := Nat.min_le_right _ _
  omega
theorem op_inDT {X : Cx} (hu : X.A.units + 65 < cLine) : OpR X (compareOp .In) (rInDT X.K false) := by
  intro pins s σ H x y v u Q I rx ry h
  obtain ⟨d, e, ds, hd, he, ee, sd, se, q⟩ := h
  obtain ⟨as, r1⟩ := Dp.reads I d x v hd rx
  obtain ⟨bs, r2⟩ := Dp.reads I e y u he ry
  rcases ee with rfl | rfl
  · exact SeqAt.in_list_reads r2 r1 (SeqAt.canLay_of_shaped se) (SeqAt.canLay_of_shaped sd) (room_in_any (e := d) sd hu) ⟨.bl _, H, I, rfl, q⟩
  · exact SeqAt.in_tuple_reads r2 r1 (SeqAt.canLay_of_shaped se) (SeqAt.canLay_of_shaped sd) (room_in_any (e := d) sd hu) ⟨.bl _, H, I, rfl, q⟩
theorem op_notInDT {X : Cx} (hu : X.A.units + 65 < cLine) : OpR X (compareOp .NotIn) (rInDT X.K true) := by
  intro pins s σ H x y v u Q I rx ry h
  obtain ⟨d, e, ds, hd, he, ee, sd, se, q⟩ := h
  obtain ⟨as, r1⟩ := Dp.reads I d x v hd rx
  obtain ⟨bs, r2⟩ := Dp.reads I e y u he ry
  rcases ee with rfl | rfl
  · exact SeqAt.notIn_list_reads r2 r1 (SeqAt.canLay_of_shaped se) (SeqAt.canLay_of_shaped sd) (room_in_any (e := d) sd hu) ⟨.bl _, H, I, rfl, q⟩
  · exact SeqAt.notIn_tuple_reads r2 r1 (SeqAt.canLay_of_shaped se) (SeqAt.canLay_of_shaped sd) (room_in_any (e := d) sd hu) ⟨.bl _, H, I, rfl, q⟩
theorem scl_in : Scl2 hIn := fun d e => by
  unfold hIn
  cases e <;> first | exact .inr rfl | (simp only; split <;> first | exact .inl ⟨_, rfl, rfl⟩ | exact .inr rfl)
theorem scl_notIn : Scl2 hNotIn := fun d e => by
  unfold hNotIn
  cases e <;> first | exact .inr rfl | (simp only; split <;> first | exact .inl ⟨_, rfl, rfl⟩ | exact .inr rfl)
theorem osc_in : OSc K (rInDT K false) hIn := fun H x y d e Q hx hy h => by
  unfold hIn at h
  cases e <;> first | exact h.elim | skip
  all_goals rename_i ds
  · simp only at h
    generalize he : (PyData.list ds : PyData) = e at h hy
    by_cases c : (SeqAt.shaped d && SeqAt.shaped e) = true
    · rw [if_pos c] at h
      rw [Bool.and_eq_true] at c
      exact ⟨d, e, ds, hx.dp (shaped_lay c.1), hy.dp (shaped_lay c.2), .inl he.symm, c.1, c.2, h.2 _ (.bl _)⟩
    · rw [if_neg c] at h
      exact h.elim
  · simp only at h
    generalize he : (PyData.tuple ds : PyData) = e at h hy
    by_cases c : (SeqAt.shaped d && SeqAt.shaped e) = true
    · rw [if_pos c] at h
      rw [Bool.and_eq_true] at c
      exact ⟨d, e, ds, hx.dp (shaped_lay c.1), hy.dp (shaped_lay c.2), .inr he.symm, c.1, c.2, h.2 _ (.bl _)⟩
    · rw [if_neg c] at h
      exact h.elim
theorem osc_notIn : OSc K (rInDT K true) hNotIn := fun H x y d e Q hx hy h => by
  unfold hNotIn at h
  cases e <;> first | exact h.elim | skip
  all_goals rename_i ds
  · simp only at h
    generalize he : (PyData.list ds : PyData) = e at h hy
    by_cases c : (SeqAt.shaped d && SeqAt.shaped e) = true
    · rw [if_pos c] at h
      rw [Bool.and_eq_true] at c
      exact ⟨d, e, ds, hx.dp (shaped_lay c.1), hy.dp (shaped_lay c.2), .inl he.symm, c.1, c.2, h.2 _ (.bl _)⟩
    · rw [if_neg c] at h
      exact h.elim
  · simp only at h
    generalize he : (PyData.tuple ds : PyData) = e at h hy
    by_cases c : (SeqAt.shaped d && SeqAt.shaped e) = true
    · rw [if_pos c] at h
      rw [Bool.and_eq_true] at c
      exact ⟨d, e, ds, hx.dp (shaped_lay c.1), hy.dp (shaped_lay c.2), .inr he.symm, c.1, c.2, h.2 _ (.bl _)⟩
    · rw [if_neg c] at h
      exact h.elim

/-! ### calls of built-ins with a scalar's answer -/
theorem Rp.lenV {F : Addr → Prop} {H : Hp} {v : V} {xs : List Dt} (h : Rp K F H v (.list xs)) : LenV K v H xs.length := by
  cases h with
  | lst h _ r => exact .inl ⟨_, .inl (.inl h), by first | exact r.length | exact r.length.symm⟩
  | fz h r => exact .inl ⟨_, h.sql, by first | exact r.length | exact r.length.symm⟩
theorem Rp.lenVt {F : Addr → Prop} {H : Hp} {v : V} {xs : List Dt} (h : Rp K F H v (.tuple xs)) : LenV K v H xs.length := by
  cases h with
  | tup h r => exact .inr ⟨_, h, by first | exact r.length | exact r.length.symm⟩
theorem csc_len : CSc K (fun xs H Q => ∃ x n, xs = [x] ∧ LenV K x H n ∧ Q (.int n) H) hLen := fun H xs ds Q hx h => by
  unfold hLen at h
  split at h
  · rename_i e
    split at e
    · cases hx with
      | cons h1 h2 =>
        cases h2
        cases e
        exact ⟨_, _, rfl, h1.lenV, h.2 _ (.int _)⟩
    · cases hx with
      | cons h1 h2 =>
        cases h2
        cases e
        exact ⟨_, _, rfl, h1.lenVt, h.2 _ (.int _)⟩
    · split at e
      · rename_i c
        cases e
        cases hx with
        | cons h1 h2 =>
          cases h2
          cases h1
          exact ⟨_, _, rfl, ⟨sz_le c, rfl⟩, h.2 _ (.int _)⟩
      · cases e
    · cases e
  · exact h.elim
theorem scl_len : SclA hLen := fun ds => by
  unfold hLen
  split
  · exact .inl ⟨_, rfl, rfl⟩
  · exact .inl ⟨_, rfl, rfl⟩
  · split
    · exact .inl ⟨_, rfl, rfl⟩
    · exact .inr rfl
  · exact .inr rfl
theorem rpInt {F : Addr → Prop} {H : Hp} {v : V} {i : Int} (h : Rp K F H v (.int i)) : v = .int i := by cases h; rfl
theorem rpBl {F : Addr → Prop} {H : Hp} {v : V} {i : Bool} (h : Rp K F H v (.bool i)) : v = .bl i := by cases h; rfl
theorem csc_min2 : CSc K (fun xs H Q => ∃ i j, xs = [.int i, .int j] ∧ Q (.int (if j < i then j else i)) H) hMin2 := fun H xs ds Q hx h => by
  unfold hMin2 at h
  split at h
  · rename_i e
    split at e
    · cases hx with
      | cons h1 h2 =>
        cases h2 with
        | cons h2 h3 =>
          cases h3
          cases e
          rw [rpInt h1, rpInt h2]
          exact ⟨_, _, rfl, h.2 _ (.int _)⟩
    · cases e
  · exact h.elim
theorem scl_min2 : SclA hMin2 := fun ds => by
  unfold hMin2
  split
  · exact .inl ⟨_, rfl, rfl⟩
  · exact .inr rfl
theorem csc_max2 : CSc K (fun xs H Q => ∃ i j, xs = [.int i, .int j] ∧ Q (.int (if j > i then j else i)) H) hMax2 := fun H xs ds Q hx h => by
  unfold hMax2 at h
  split at h
  · rename_i e
    split at e
    · cases hx with
      | cons h1 h2 =>
        cases h2 with
        | cons h2 h3 =>
          cases h3
          cases e
          rw [rpInt h1, rpInt h2]
          exact ⟨_, _, rfl, h.2 _ (.int _)⟩
    · cases e
  · exact h.elim
theorem scl_max2 : SclA hMax2 := fun ds => by
  unfold hMax2
  split
  · exact .inl ⟨_, rfl, rfl⟩
  · exact .inr rfl
def rMin3 : List V → Hp → VK → Prop := fun xs H Q => ∃ i j k, xs = [.int i, .int j, .int k] ∧ Q (.int (if j < i then (if k < j then k else j) else (if k < i then k else i))) H
theorem call_min3 {X : Cx} (hc : X.calm = true) : CallR X (.builtin "min") rMin3 := by
  intro pins s σ H xs us Q I r h
  obtain ⟨i, j, k, rfl, q⟩ := h
  cases r with
  | cons r1 r =>
    cases r with
    | cons r2 r =>
      cases r with
      | cons r3 r =>
        cases r
        obtain ⟨t1, rfl⟩ := r1
        obtain ⟨t2, rfl⟩ := r2
        obtain ⟨t3, rfl⟩ := r3
        refine min_three_ints (I.ok.hd hc) fun h' tk k => ⟨_, H, I.kept k, ?_, q⟩
        split
        · split <;> exact ⟨_, rfl⟩
        · split <;> exact ⟨_, rfl⟩
theorem csc_min3 : CSc K rMin3 hMin3 := fun H xs ds Q hx h => by
  unfold hMin3 at h
  split at h
  · rename_i e
    split at e
    · cases hx with
      | cons h1 h2 =>
        cases h2 with
        | cons h2 h3 =>
          cases h3 with
          | cons h3 h4 =>
            cases h4
            cases e
            rw [rpInt h1, rpInt h2, rpInt h3]
            exact ⟨_, _, _, rfl, h.2 _ (.int _)⟩
    · cases e
  · exact h.elim
theorem scl_min3 : SclA hMin3 := fun ds => by
  unfold hMin3
  split
  · exact .inl ⟨_, rfl, rfl⟩
  · exact .inr rfl
theorem csc_int1 : CSc K (fun xs H Q => (∃ i, xs = [.int i] ∧ Q (.int i) H) ∨ ∃ k, xs = [.bl k] ∧ Q (.int (if k then 1 else 0)) H) hInt1 := fun H xs ds Q hx h => by
  unfold hInt1 at h
  split at h
  · rename_i e
    split at e
    · cases hx with
      | cons h1 h2 =>
        cases h2
        cases e
        rw [rpInt h1]
        exact .inl ⟨_, rfl, h.2 _ (.int _)⟩
    · cases hx with
      | cons h1 h2 =>
        cases h2
        cases e
        rw [rpBl h1]
        exact .inr ⟨_, rfl, h.2 _ (.int _)⟩
    · cases e
  · exact h.elim
theorem scl_int1 : SclA hInt1 := fun ds => by
  unfold hInt1
  split
  · exact .inl ⟨_, rfl, rfl⟩
  · exact .inl ⟨_, rfl, rfl⟩
  · exact .inr rfl
theorem rp_bools {F : Addr → Prop} {H : Hp} : ∀ {xs : List V} {ds : List Dt} {bs : List Bool}, RpA K F H xs ds → allB ds = some bs → xs = bs.map V.bl
  | _, _, _, .nil, e => by cases e; rfl
  | _, _, bs, .cons (d := d) h r, e => by
    cases h <;> first | (cases e; done) | skip
    rename_i b _ _
    unfold allB at e
    cases q : allB _ with
    | none => rw [q] at e; cases e
    | some cs =>
      rw [q] at e
      cases e
      rw [rp_bools r q]
      rfl
theorem rp_ints {F : Addr → Prop} {H : Hp} : ∀ {xs : List V} {ds : List Dt} {bs : List Int}, RpA K F H xs ds → allI ds = some bs → xs = bs.map V.int
  | _, _, _, .nil, e => by cases e; rfl
  | _, _, bs, .cons (d := d) h r, e => by
    cases h <;> first | (cases e; done) | skip
    rename_i b _ _
    unfold allI at e
    cases q : allI _ with
    | none => rw [q] at e; cases e
    | some cs =>
      rw [q] at e
      cases e
      rw [rp_ints r q]
      rfl
theorem Rp.sql {F : Addr → Prop} {H : Hp} {v : V} {ds : List Dt} (h : Rp K F H v (.list ds)) : ∃ a xs, v = .ref a ∧ SqL K H a xs ∧ RpA K F H xs ds := by
  cases h with
  | lst h _ r => exact ⟨_, _, rfl, .inl (.inl h), r⟩
  | fz h r => exact ⟨_, _, rfl, h.sql, r⟩
theorem csc_all : CSc K (rAll K) hAll := fun H xs ds Q hx h => by
  unfold hAll at h
  split at h
  · rename_i e
    split at e
    · split at e
      · rename_i bs eb
        cases e
        cases hx with
        | cons h1 h2 =>
          cases h2
          obtain ⟨a, ys, rfl, hs, r⟩ := h1.sql
          rw [rp_bools r eb] at hs
          exact ⟨a, bs, rfl, hs, h.2 _ (.bl _)⟩
      · cases e
    · cases e
  · exact h.elim
theorem scl_all : SclA hAll := fun ds => by
  unfold hAll
  split
  · split
    · exact .inl ⟨_, rfl, rfl⟩
    · exact .inr rfl
  · exact .inr rfl
theorem csc_any : CSc K (rAny K) hAny := fun H xs ds Q hx h => by
  unfold hAny at h
  split at h
  · rename_i e
    split at e
    · split at e
      · rename_i bs eb
        cases e
        cases hx with
        | cons h1 h2 =>
          cases h2
          obtain ⟨a, ys, rfl, hs, r⟩ := h1.sql
          rw [rp_bools r eb] at hs
          exact ⟨a, bs, rfl, hs, h.2 _ (.bl _)⟩
      · cases e
    · cases e
  · exact h.elim
theorem scl_any : SclA hAny := fun ds => by
  unfold hAny
  split
  · split
    · exact .inl ⟨_, rfl, rfl⟩
    · exact .inr rfl
  · exact .inr rfl
theorem csc_sum : CSc K (rSum K) hSum := fun H xs ds Q hx h => by
  unfold hSum at h
  split at h
  · rename_i e
    split at e
    · split at e
      · rename_i bs eb
        cases e
        cases hx with
        | cons h1 h2 =>
          cases h2
          obtain ⟨a, ys, rfl, hs, r⟩ := h1.sql
          rw [rp_ints r eb] at hs
          exact ⟨a, bs, rfl, hs, h.2 _ (.int _)⟩
      · cases e
    · cases e
  · exact h.elim
theorem scl_sum : SclA hSum := fun ds => by
  unfold hSum
  split
  · split
    · exact .inl ⟨_, rfl, rfl⟩
    · exact .inr rfl
  · exact .inr rfl
theorem usc_bits : USc K (fun x H Q => ∃ i, x = .int i ∧ Q (.int (Builtin.Int.intBits i : Nat)) H) hBits := fun H x d Q hx h => by
  cases hx <;> first | exact h.elim | skip
  exact ⟨_, rfl, h.2 _ (.int _)⟩
theorem scl_bits : Scl1 hBits := fun d => by cases d <;> first | exact .inr rfl | exact .inl ⟨_, rfl, rfl⟩
end

/-! ### the rules -/
section
variable {X : Cx} {K : PySem.W.Frag} {W : Wt} {Δ : List Kd} {a b c e : Expr} {es : List Expr} {ta tb tc te : TE} {tt tu : TT} {tA : TA} {ga gb gc g : Gd} {gt gu : List Dt → O Bool} {gA : List Dt → O (List Dt)} {k k1 k2 : Rk} {av fr av' fr' : Bool} {pos : Pos}

theorem x_var (i : Nat) {x : Str} (hk : Δ[i]? = some (.im fr) := by rfl) (hN : X.N[i]? = some x := by rfl) (hv : Vis X.env.scope x := by first | exact Or.inl rfl | exact Or.inr (Or.inl rfl) | exact Or.inr (Or.inr rfl)) (hd : (x == ("__debug__" : Str)) = false := by decide)
    (hcd : (x == ("__classdict__" : Str)) = false := by decide) (hK : X.K = K := by rfl) : PD X K W Δ (.Name x pos) (tVar i) (.v true fr) (gVar i) := ⟨pe_var hN hv hd hcd, hK, se_var hk⟩
theorem x_own (i : Nat) {x : Str} (hk : Δ[i]? = some (.own .l fr) := by rfl) (hN : X.N[i]? = some x := by rfl) (hv : Vis X.env.scope x := by first | exact Or.inl rfl | exact Or.inr (Or.inl rfl) | exact Or.inr (Or.inr rfl)) (hd : (x == ("__debug__" : Str)) = false := by decide)
    (hcd : (x == ("__classdict__" : Str)) = false := by decide) (hK : X.K = K := by rfl) : PD X K W Δ (.Name x pos) (tVar i) (.o fr) (gVar i) := ⟨pe_var hN hv hd hcd, hK, se_own hk⟩
theorem x_int {i : Int} {j} (hK : X.K = K := by rfl) : PD X K W Δ (.Constant (.int i) j pos) (tC (.int i)) (.v true true) (gC (.int i)) := ⟨pe_int, hK, se_int⟩
theorem x_bl {i : Bool} {j} (hK : X.K = K := by rfl) : PD X K W Δ (.Constant (.bool i) j pos) (tC (.bl i)) (.v true true) (gC (.bool i)) := ⟨pe_bl, hK, se_bl⟩
theorem x_non {j} (hK : X.K = K := by rfl) : PD X K W Δ (.Constant .none j pos) (tC .non) (.v true true) (gC .none) := ⟨pe_non, hK, se_non⟩
theorem x_str {x : Str} {j} (hK : X.K = K := by rfl) : PD X K W Δ (.Constant (.str x) j pos) (tC (.str x)) (.v true true) (gC (.str x)) := ⟨pe_str, hK, se_str⟩
theorem x_glob {x : Str} {v : V} {u : Value} {d : Dt} (hm : X.mg x = some u) (r : RelV v u) (hr : Rp K (fun _ => False) (fun _ => none) v d) (s : scl d = true := by rfl) (hg : Gl X x := by rfl) (hd : (x == ("__debug__" : Str)) = false := by decide) (hK : X.K = K := by rfl) :
    PD X K W Δ (.Name x pos) (tC v) (.v true true) (gC d) := ⟨pe_glob hg hm r hd, hK, se_c hr s⟩

theorem PD.wk (h : PD X K W Δ e te (.v av fr) g) (h1 : av' = true → av = true := by decide) (h2 : fr' = true → fr = true := by decide) : PD X K W Δ e te (.v av' fr') g := ⟨h.pe, h.hK, h.se.wk h1 h2⟩
theorem PD.ov (h : PD X K W Δ e te (.o fr) g) : PD X K W Δ e te (.v false fr) g := ⟨h.pe, h.hK, h.se.ov⟩
theorem PD.nv (h : PD X K W Δ e te (.new .l fr) g) : PD X K W Δ e te (.v true fr) g := ⟨h.pe, h.hK, h.se.nv⟩
theorem PD.no (h : PD X K W Δ e te (.new .l fr) g) : PD X K W Δ e te (.o fr) g := ⟨h.pe, h.hK, h.se.no⟩
theorem PD.pur (h : PD X K W Δ e te (.v av fr) g) : PD X K W Δ e te (.v true true) (gPur g) := ⟨h.pe, h.hK, h.se.pur⟩
theorem PD.purN (h : PD X K W Δ e te (.new .l fr) g) : PD X K W Δ e te (.new .l true) (gPurN g) := ⟨h.pe, h.hK, h.se.purN⟩
theorem PD.purO (h : PD X K W Δ e te (.o fr) g) : PD X K W Δ e te (.o true) (gPurN g) := ⟨h.pe, h.hK, h.se.purO⟩

theorem x_add (ha : PD X K W Δ a ta (.v av fr) ga) (hb : PD X K W Δ b tb (.v av' fr') gb) : PD X K W Δ (.BinOp a .Add b pos) (tOp (rI0 fun i j => .int (i + j)) ta tb) (.v true true) (gOp hAdd ga gb) := ⟨pe_op op_add ha.pe hb.pe, ha.hK, se_op scl_I0 osc_I0 ha.se hb.se⟩
theorem x_sub (ha : PD X K W Δ a ta (.v av fr) ga) (hb : PD X K W Δ b tb (.v av' fr') gb) : PD X K W Δ (.BinOp a .Sub b pos) (tOp (rI0 fun i j => .int (i - j)) ta tb) (.v true true) (gOp hSub ga gb) := ⟨pe_op op_sub ha.pe hb.pe, ha.hK, se_op scl_I0 osc_I0 ha.se hb.se⟩
theorem x_mul (ha : PD X K W Δ a ta (.v av fr) ga) (hb : PD X K W Δ b tb (.v av' fr') gb) : PD X K W Δ (.BinOp a .Mult b pos) (tOp (rI CMul fun i j => .int (i * j)) ta tb) (.v true true) (gOp hMul ga gb) := ⟨pe_op op_mul ha.pe hb.pe, ha.hK, se_op scl_I (osc_I fun _ _ => cMul_ok) ha.se hb.se⟩
theorem x_div (ha : PD X K W Δ a ta (.v av fr) ga) (hb : PD X K W Δ b tb (.v av' fr') gb) : PD X K W Δ (.BinOp a .FloorDiv b pos) (tOp (rI CDivW fun i j => .int (i / j)) ta tb) (.v true true) (gOp hDiv ga gb) := ⟨pe_op op_fdivW ha.pe hb.pe, ha.hK, se_op scl_I (osc_I fun _ _ => cDiv_ok) ha.se hb.se⟩
theorem x_mod (ha : PD X K W Δ a ta (.v av fr) ga) (hb : PD X K W Δ b tb (.v av' fr') gb) : PD X K W Δ (.BinOp a .Mod b pos) (tOp (rI (fun _ j => 0 < j) fun i j => .int (i % j)) ta tb) (.v true true) (gOp hMod ga gb) := ⟨pe_op op_mod ha.pe hb.pe, ha.hK, se_op scl_I (osc_I fun _ _ => cMod_ok) ha.se hb.se⟩
theorem x_pow (ha : PD X K W Δ a ta (.v av fr) ga) (hb : PD X K W Δ b tb (.v av' fr') gb) : PD X K W Δ (.BinOp a .Pow b pos) (tOp (rI CPow fun i j => .int (i ^ j.toNat)) ta tb) (.v true true) (gOp hPow ga gb) := ⟨pe_op op_pow ha.pe hb.pe, ha.hK, se_op scl_I (osc_I fun _ _ => cPow_ok) ha.se hb.se⟩
theorem x_shr (ha : PD X K W Δ a ta (.v av fr) ga) (hb : PD X K W Δ b tb (.v av' fr') gb) : PD X K W Δ (.BinOp a .RShift b pos) (tOp (rI (fun _ j => 0 ≤ j) fun i j => .int (i / 2 ^ j.toNat)) ta tb) (.v true true) (gOp hShr ga gb) := ⟨pe_op op_shr ha.pe hb.pe, ha.hK, se_op scl_I (osc_I fun _ _ => cShr_ok) ha.se hb.se⟩
theorem x_band (ha : PD X K W Δ a ta (.v av fr) ga) (hb : PD X K W Δ b tb (.v av' fr') gb) : PD X K W Δ (.BinOp a .BitAnd b pos) (tOp (rI0 fun i j => .int (Builtin.bitAnd i j)) ta tb) (.v true true) (gOp hBand ga gb) := ⟨pe_op op_and ha.pe hb.pe, ha.hK, se_op scl_I0 osc_I0 ha.se hb.se⟩
theorem x_neg (ha : PD X K W Δ a ta (.v av fr) ga) : PD X K W Δ (.UnaryOp .USub a pos) (tUn (rU fun i => .int (-i)) ta) (.v true true) (gUn (hU fun i => -i) ga) := ⟨pe_un un_neg ha.pe, ha.hK, se_un scl_U usc_U ha.se⟩
theorem x_bits {apos : Pos} (ha : PD X K W Δ a ta (.v av fr) ga) (hbase : attributeBase a "bit_length" X.env (eval a X.env) = eval a X.env := by rfl) (hline : (apos.endLine == pos.line) = true := by rfl) :
    PD X K W Δ (.Call (.Attribute a "bit_length" apos) [] [] pos) (tBits ta) (.v true true) (gUn hBits ga) := ⟨pe_bits ha.pe hbase hline, ha.hK, se_un scl_bits usc_bits ha.se⟩

theorem x_lt (ha : PD X K W Δ a ta (.v av fr) ga) (hb : PD X K W Δ b tb (.v av' fr') gb) : PD X K W Δ (.Compare a [.Lt] [b] pos) (tOp (rI0 fun i j => .bl (decide (i < j))) ta tb) (.v true true) (gOp hLt ga gb) := ⟨pe_cmpR op_lt ha.pe hb.pe (nobehind _ (by decide) (by decide)), ha.hK, se_op scl_B0 osc_B0 ha.se hb.se⟩
theorem x_le (ha : PD X K W Δ a ta (.v av fr) ga) (hb : PD X K W Δ b tb (.v av' fr') gb) : PD X K W Δ (.Compare a [.LtE] [b] pos) (tOp (rI0 fun i j => .bl (decide (i ≤ j))) ta tb) (.v true true) (gOp hLe ga gb) := ⟨pe_cmpR op_le ha.pe hb.pe (nobehind _ (by decide) (by decide)), ha.hK, se_op scl_B0 osc_B0 ha.se hb.se⟩
theorem x_gt (ha : PD X K W Δ a ta (.v av fr) ga) (hb : PD X K W Δ b tb (.v av' fr') gb) : PD X K W Δ (.Compare a [.Gt] [b] pos) (tOp (rI0 fun i j => .bl (decide (j < i))) ta tb) (.v true true) (gOp hGt ga gb) := ⟨pe_cmpR op_gt ha.pe hb.pe (nobehind _ (by decide) (by decide)), ha.hK, se_op scl_B0 osc_B0 ha.se hb.se⟩
theorem x_ge (ha : PD X K W Δ a ta (.v av fr) ga) (hb : PD X K W Δ b tb (.v av' fr') gb) : PD X K W Δ (.Compare a [.GtE] [b] pos) (tOp (rI0 fun i j => .bl (decide (j ≤ i))) ta tb) (.v true true) (gOp hGe ga gb) := ⟨pe_cmpR op_ge ha.pe hb.pe (nobehind _ (by decide) (by decide)), ha.hK, se_op scl_B0 osc_B0 ha.se hb.se⟩
theorem x_eq {n : Nat} (hr : Room n X.A) (ha : PD X K W Δ a ta (.v av fr) ga) (hb : PD X K W Δ b tb (.v av' fr') gb) : PD X K W Δ (.Compare a [.Eq] [b] pos) (tOp (rEqD K) ta tb) (.v true true) (gOp hEq ga gb) :=
  ⟨pe_cmpR (by have q := op_eqD (X := X) (by have := hr.un; omega); rw [ha.hK] at q; exact q) ha.pe hb.pe (nobehind _ (by decide) (by decide)), ha.hK, se_op scl_eq osc_eq ha.se hb.se⟩
theorem x_ne {n : Nat} (hr : Room n X.A) (ha : PD X K W Δ a ta (.v av fr) ga) (hb : PD X K W Δ b tb (.v av' fr') gb) : PD X K W Δ (.Compare a [.NotEq] [b] pos) (tOp (rNeD K) ta tb) (.v true true) (gOp hNe ga gb) :=
  ⟨pe_cmpR (by have q := op_neD (X := X) (by have := hr.un; omega); rw [ha.hK] at q; exact q) ha.pe hb.pe (nobehind _ (by decide) (by decide)), ha.hK, se_op scl_ne osc_ne ha.se hb.se⟩
theorem x_in {n : Nat} (hr : Room n X.A) (ha : PD X K W Δ a ta (.v av fr) ga) (hb : PD X K W Δ b tb (.v av' fr') gb) (hm : behindInMarks .In b = false := by rfl) : PD X K W Δ (.Compare a [.In] [b] pos) (tOp (rInDT K false) ta tb) (.v true true) (gOp hIn ga gb) :=
  ⟨pe_cmpR (by have q := op_inDT (X := X) (by have := hr.un; omega); rw [ha.hK] at q; exact q) ha.pe hb.pe hm, ha.hK, se_op scl_in osc_in ha.se hb.se⟩
theorem x_notIn {n : Nat} (hr : Room n X.A) (ha : PD X K W Δ a ta (.v av fr) ga) (hb : PD X K W Δ b tb (.v av' fr') gb) (hm : behindInMarks .NotIn b = false := by rfl) : PD X K W Δ (.Compare a [.NotIn] [b] pos) (tOp (rInDT K true) ta tb) (.v true true) (gOp hNotIn ga gb) :=
  ⟨pe_cmpR (by have q := op_notInDT (X := X) (by have := hr.un; omega); rw [ha.hK] at q; exact q) ha.pe hb.pe hm, ha.hK, se_op scl_notIn osc_notIn ha.se hb.se⟩
theorem x_isN (ha : PD X K W Δ a ta (.v av fr) ga) (hb : PD X K W Δ b tb (.v av' fr') gb) : PD X K W Δ (.Compare a [.Is] [b] pos) (tOp (fun x y H Q => y = .non ∧ Q (.bl (decide (x = .non))) H) ta tb) (.v true true) (gOp hIs ga gb) := ⟨pe_cmpR op_isN ha.pe hb.pe (nobehind _ (by decide) (by decide)), ha.hK, se_op scl_is osc_is ha.se hb.se⟩
theorem x_notN (ha : PD X K W Δ a ta (.v av fr) ga) (hb : PD X K W Δ b tb (.v av' fr') gb) : PD X K W Δ (.Compare a [.IsNot] [b] pos) (tOp (fun x y H Q => y = .non ∧ Q (.bl (!decide (x = .non))) H) ta tb) (.v true true) (gOp hIsNot ga gb) := ⟨pe_cmpR op_notN ha.pe hb.pe (nobehind _ (by decide) (by decide)), ha.hK, se_op scl_isNot osc_isNot ha.se hb.se⟩

/-! tests -/
theorem c_val (h : PD X K W Δ e te (.v av fr) g) (he : ∀ whole, isTrue e X.env whole = (do let v ← whole; standAt e.pos; holding [v] (truthy v)) := by intro _; rfl) : TD X K W Δ e (tB te) (gTest g) := ⟨pt_val h.pe he, h.hK, st_B h.se⟩
theorem c_not (h : TD X K W Δ a tt gt) : TD X K W Δ (.UnaryOp .Not a pos) (tNot tt) (gNot gt) := ⟨pt_not h.pt, h.hK, st_not h.st⟩
theorem w_and1 (h : TD X K W Δ a tt gt) : WD X K W Δ (.BoolOp .And [a] pos) tt gt := ⟨pw_and1 h.pt, h.hK, h.st⟩
theorem w_or1 (h : TD X K W Δ a tt gt) : WD X K W Δ (.BoolOp .Or [a] pos) tt gt := ⟨pw_or1 h.pt, h.hK, h.st⟩
theorem w_and (h : TD X K W Δ a tt gt) (h2 : WD X K W Δ (.BoolOp .And (b :: es) pos) tu gu) : WD X K W Δ (.BoolOp .And (a :: b :: es) pos) (tAnd tt tu) (gAnd gt gu) := ⟨pw_and h.pt h2.pw, h.hK, st_and h.st h2.st⟩
theorem w_or (h : TD X K W Δ a tt gt) (h2 : WD X K W Δ (.BoolOp .Or (b :: es) pos) tu gu) : WD X K W Δ (.BoolOp .Or (a :: b :: es) pos) (tOr tt tu) (gOr gt gu) := ⟨pw_or h.pt h2.pw, h.hK, st_or h.st h2.st⟩
theorem c_w (h : WD X K W Δ e tt gt) : TD X K W Δ e tt gt := ⟨h.pw.pt, h.hK, h.st⟩
theorem x_ifE (h : TD X K W Δ c tt gt) (ha : PD X K W Δ a ta k ga) (hb : PD X K W Δ b tb k gb) : PD X K W Δ (.IfExp c a b pos) (tIf tt ta tb) k (gIf gt ga gb) := ⟨pe_ifExp h.pt ha.pe hb.pe, h.hK, se_if h.st ha.se hb.se⟩
theorem x_one {op} (h : PD X K W Δ a ta k ga) : PD X K W Δ (.BoolOp op [a] pos) ta k ga := ⟨pe_one h.pe, h.hK, h.se⟩
theorem x_and (ha : PD X K W Δ a ta (.v av fr) ga) (hb : PD X K W Δ (.BoolOp .And (b :: es) pos) tb (.v true true) gb) : PD X K W Δ (.BoolOp .And (a :: b :: es) pos) (tAndV ta tb) (.v true true) (gAndV ga gb) := ⟨pe_and ha.pe hb.pe, ha.hK, se_andV ha.se hb.se⟩
theorem x_or (ha : PD X K W Δ a ta (.v av fr) ga) (hb : PD X K W Δ (.BoolOp .Or (b :: es) pos) tb (.v true true) gb) : PD X K W Δ (.BoolOp .Or (a :: b :: es) pos) (tOrV ta tb) (.v true true) (gOrV ga gb) := ⟨pe_or ha.pe hb.pe, ha.hK, se_orV ha.se hb.se⟩
theorem x_not (ha : PD X K W Δ a ta (.v av fr) ga) : PD X K W Δ (.UnaryOp .Not a pos) (tNotV ta) (.v true true) (gNotV ga) := ⟨pe_not ha.pe, ha.hK, se_notV ha.se⟩

/-! argument lists, displays -/
theorem a_nil (hK : X.K = K := by rfl) : AD X K W Δ [] tNil true true gNil := ⟨pa_nil, hK, sa_nil⟩
theorem a_cons (ha : PD X K W Δ a ta (.v av fr) ga) (hr : AD X K W Δ es tA av' fr' gA) (hs : starEach (a :: es) X.env = (false, eval a X.env) :: starEach es X.env := by rfl) : AD X K W Δ (a :: es) (tCons ta tA) (av && av') (fr && fr') (gCons ga gA) := ⟨pa_cons ha.pe hr.pa hs, ha.hK, sa_cons ha.se hr.sa⟩
theorem AD.wk (h : AD X K W Δ es tA av fr gA) (h1 : av' = true → av = true := by decide) (h2 : fr' = true → fr = true := by decide) : AD X K W Δ es tA av' fr' gA := ⟨h.pa, h.hK, h.sa.wk h1 h2⟩
theorem x_tup {x1} (h : AD X K W Δ es tA av fr gA) : PD X K W Δ (.Tuple es x1 pos) (tTup tA) (.v av fr) (gTup gA) := ⟨pe_tup h.pa, h.hK, se_tup h.sa⟩
theorem x_lst (h : AD X K W Δ es tA true fr gA) : PD X K W Δ (.List es pos) (tLst tA) (.new .l fr) (gLst gA) := ⟨pe_lst h.pa, h.hK, se_lst h.sa⟩
theorem x_lstv (h : AD X K W Δ es tA av fr gA) : PD X K W Δ (.List es pos) (tLst tA) (.v av fr) (gLst gA) := ⟨pe_lst h.pa, h.hK, se_lstv h.sa⟩

/-! calls of built-ins -/
theorem x_len {x : Str} {p : Pos} (hm : X.mg x = none) (h : AD X K W Δ (e :: es) tA av fr gA) (hv : bootBuiltins x = some (.builtin "len") := by decide +kernel) (hg : Gl X x := by rfl) (hn : x ≠ "__name__" := by decide) (hdb : (x == ("__debug__" : Str)) = false := by decide)
    (he : starEach (e :: es) X.env = (false, eval e X.env) :: starEach es X.env := by rfl) (hpl : (backTo pos (starEach es X.env)).any (·.1) = false := by rfl) :
    PD X K W Δ (.Call (.Name x p) (e :: es) [] pos) (tCB (fun xs H Q => ∃ x n, xs = [x] ∧ LenV K x H n ∧ Q (.int n) H) tA) (.v true true) (gCB hLen gA) :=
  ⟨pe_callB (by have q := call_len (X := X); rw [h.hK] at q; exact q) hg hm hv h.pa hn hdb he hpl, h.hK, se_cb scl_len csc_len h.sa⟩
theorem x_min2 {x : Str} {p : Pos} (hm : X.mg x = none) (h : AD X K W Δ (e :: es) tA av fr gA) (hc : X.calm = true := by rfl) (hv : bootBuiltins x = some (.builtin "min") := by decide +kernel) (hg : Gl X x := by rfl) (hn : x ≠ "__name__" := by decide) (hdb : (x == ("__debug__" : Str)) = false := by decide)
    (he : starEach (e :: es) X.env = (false, eval e X.env) :: starEach es X.env := by rfl) (hpl : (backTo pos (starEach es X.env)).any (·.1) = false := by rfl) :
    PD X K W Δ (.Call (.Name x p) (e :: es) [] pos) (tCB (fun xs H Q => ∃ i j, xs = [.int i, .int j] ∧ Q (.int (if j < i then j else i)) H) tA) (.v true true) (gCB hMin2 gA) := ⟨pe_callB (call_min2 hc) hg hm hv h.pa hn hdb he hpl, h.hK, se_cb scl_min2 csc_min2 h.sa⟩
theorem x_max2 {x : Str} {p : Pos} (hm : X.mg x = none) (h : AD X K W Δ (e :: es) tA av fr gA) (hc : X.calm = true := by rfl) (hv : bootBuiltins x = some (.builtin "max") := by decide +kernel) (hg : Gl X x := by rfl) (hn : x ≠ "__name__" := by decide) (hdb : (x == ("__debug__" : Str)) = false := by decide)
    (he : starEach (e :: es) X.env = (false, eval e X.env) :: starEach es X.env := by rfl) (hpl : (backTo pos (starEach es X.env)).any (·.1) = false := by rfl) :
    PD X K W Δ (.Call (.Name x p) (e :: es) [] pos) (tCB (fun xs H Q => ∃ i j, xs = [.int i, .int j] ∧ Q (.int (if j > i then j else i)) H) tA) (.v true true) (gCB hMax2 gA) := ⟨pe_callB (call_max2 hc) hg hm hv h.pa hn hdb he hpl, h.hK, se_cb scl_max2 csc_max2 h.sa⟩
theorem x_min3 {x : Str} {p : Pos} (hm : X.mg x = none) (h : AD X K W Δ (e :: es) tA av fr gA) (hc : X.calm = true := by rfl) (hv : bootBuiltins x = some (.builtin "min") := by decide +kernel) (hg : Gl X x := by rfl) (hn : x ≠ "__name__" := by decide) (hdb : (x == ("__debug__" : Str)) = false := by decide)
    (he : starEach (e :: es) X.env = (false, eval e X.env) :: starEach es X.env := by rfl) (hpl : (backTo pos (starEach es X.env)).any (·.1) = false := by rfl) :
    PD X K W Δ (.Call (.Name x p) (e :: es) [] pos) (tCB rMin3 tA) (.v true true) (gCB hMin3 gA) := ⟨pe_callB (call_min3 hc) hg hm hv h.pa hn hdb he hpl, h.hK, se_cb scl_min3 csc_min3 h.sa⟩
theorem x_int1 {x : Str} {p : Pos} (hm : X.mg x = none) (h : AD X K W Δ (e :: es) tA av fr gA) (hv : bootBuiltins x = some (.type "int") := by decide +kernel) (hg : Gl X x := by rfl) (hn : x ≠ "__name__" := by decide) (hdb : (x == ("__debug__" : Str)) = false := by decide)
    (he : starEach (e :: es) X.env = (false, eval e X.env) :: starEach es X.env := by rfl) (hpl : (backTo pos (starEach es X.env)).any (·.1) = false := by rfl) :
    PD X K W Δ (.Call (.Name x p) (e :: es) [] pos) (tCB (fun xs H Q => (∃ i, xs = [.int i] ∧ Q (.int i) H) ∨ ∃ k, xs = [.bl k] ∧ Q (.int (if k then 1 else 0)) H) tA) (.v true true) (gCB hInt1 gA) := ⟨pe_callTy call_int1 hg hm hv h.pa hn hdb he hpl, h.hK, se_cb scl_int1 csc_int1 h.sa⟩
theorem x_all {x : Str} {p : Pos} (hm : X.mg x = none) (h : AD X K W Δ (e :: es) tA av fr gA) (hc : X.calm = true := by rfl) (hv : bootBuiltins x = some (.builtin "all") := by decide +kernel) (hg : Gl X x := by rfl) (hn : x ≠ "__name__" := by decide) (hdb : (x == ("__debug__" : Str)) = false := by decide)
    (he : starEach (e :: es) X.env = (false, eval e X.env) :: starEach es X.env := by rfl) (hpl : (backTo pos (starEach es X.env)).any (·.1) = false := by rfl) :
    PD X K W Δ (.Call (.Name x p) (e :: es) [] pos) (tCB (rAll K) tA) (.v true true) (gCB hAll gA) := ⟨pe_callB (by have q := cr_all (X := X) hc; rw [h.hK] at q; exact q) hg hm hv h.pa hn hdb he hpl, h.hK, se_cb scl_all csc_all h.sa⟩
theorem x_any {x : Str} {p : Pos} (hm : X.mg x = none) (h : AD X K W Δ (e :: es) tA av fr gA) (hc : X.calm = true := by rfl) (hv : bootBuiltins x = some (.builtin "any") := by decide +kernel) (hg : Gl X x := by rfl) (hn : x ≠ "__name__" := by decide) (hdb : (x == ("__debug__" : Str)) = false := by decide)
    (he : starEach (e :: es) X.env = (false, eval e X.env) :: starEach es X.env := by rfl) (hpl : (backTo pos (starEach es X.env)).any (·.1) = false := by rfl) :
    PD X K W Δ (.Call (.Name x p) (e :: es) [] pos) (tCB (rAny K) tA) (.v true true) (gCB hAny gA) := ⟨pe_callB (by have q := cr_any (X := X) hc; rw [h.hK] at q; exact q) hg hm hv h.pa hn hdb he hpl, h.hK, se_cb scl_any csc_any h.sa⟩
theorem x_sum {x : Str} {p : Pos} (hm : X.mg x = none) (h : AD X K W Δ (e :: es) tA av fr gA) (hc : X.calm = true := by rfl) (hv : bootBuiltins x = some (.builtin "sum") := by decide +kernel) (hg : Gl X x := by rfl) (hn : x ≠ "__name__" := by decide) (hdb : (x == ("__debug__" : Str)) = false := by decide)
    (he : starEach (e :: es) X.env = (false, eval e X.env) :: starEach es X.env := by rfl) (hpl : (backTo pos (starEach es X.env)).any (·.1) = false := by rfl) :
    PD X K W Δ (.Call (.Name x p) (e :: es) [] pos) (tCB (rSum K) tA) (.v true true) (gCB hSum gA) := ⟨pe_callB (by have q := cr_sum (X := X) hc; rw [h.hK] at q; exact q) hg hm hv h.pa hn hdb he hpl, h.hK, se_cb scl_sum csc_sum h.sa⟩
end
end Sim
end T_SimC

section T_SimD
set_option Elab.async false
set_option linter.all false
set_option maxRecDepth 100000
/-! SimD: subscripts, slices, list + list, walks, targets, comprehensions. -/
namespace Sim
open PySem PySem.Spec L2
open PyProof.Rows hiding St

/-! ### lists that are laid anew -/
def cutD (xs : List Dt) (lo hi : Option Int) : List Dt := (xs.drop (HT.sIx xs.length 0 lo)).take (HT.sIx xs.length xs.length hi - HT.sIx xs.length 0 lo)
def hIx : Dt → Dt → O Dt := fun d e => match d, e with
  | .list ds, .int i => match atI ds i with
    | some z => .ok z
    | none => .bad
  | .tuple ds, .int i => match atI ds i with
    | some z => .ok z
    | none => .bad
  | .str z, .int i => if z.length ≤ 100000 then (match atI z.cps.toList i with
    | some c => .ok (.str ⟨#[c]⟩)
    | none => .bad) else .bad
  | _, _ => .bad
def hSl : Dt → Option Int → Option Int → O Dt := fun d lo hi => match d with
  | .list ds => .ok (.list (cutD ds lo hi))
  | _ => .bad
def hSlT : Dt → Option Int → Option Int → O Dt := fun d lo hi => match d with
  | .tuple ds => .ok (.tuple (cutD ds lo hi))
  | _ => .bad
def gSl (h : Dt → Option Int → Option Int → O Dt) (g : Gd) (gl gh : List Dt → O (Option Int)) : Gd := fun ρ => bnd (g ρ) fun d => bnd (gl ρ) fun lo => bnd (gh ρ) fun hi => h d lo hi
def gNoPart : List Dt → O (Option Int) := fun _ => .ok none
def gPart (g : Gd) : List Dt → O (Option Int) := fun ρ => bnd (g ρ) fun d => match d with
  | .int i => .ok (some i)
  | _ => .bad
def hCat : Dt → Dt → O Dt := fun d e => match d, e with
  | .list xs, .list ys => if xs.length + ys.length ≤ 100000 then .ok (.list (xs ++ ys)) else .bad
  | _, _ => .bad
def hRep : Dt → Dt → O Dt := fun d e => match d, e with
  | .list xs, .int k => if -(2 ^ 63) ≤ k ∧ k < 2 ^ 63 ∧ xs.length * k.toNat ≤ 100000 then .ok (.list (List.replicate k.toNat xs).flatten) else .bad
  | _, _ => .bad
def hListOf : Dt → O Dt := fun d => match d with
  | .list xs => .ok (.list xs)
  | .tuple xs => .ok (.list xs)
  | _ => .bad
def hTupOf : Dt → O Dt := fun d => match d with
  | .list xs => .ok (.tuple xs)
  | .tuple xs => .ok (.tuple xs)
  | _ => .bad
def isort (ns : List Int) : List Int := ns.mergeSort fun a b => decide (a ≤ b)
def hSorted : Dt → O Dt := fun d => match d with
  | .list xs => match allI xs with
    | some ns => .ok (.list ((isort ns).map .int))
    | none => .bad
  | _ => .bad
def one (h : Dt → O Dt) : List Dt → O Dt := fun ds => match ds with
  | [d] => h d
  | _ => .bad

section
variable {K : PySem.W.Frag} {W : Wt} {Δ : List Kd} {F : Addr → Prop} {H : Hp}

theorem RpA.ixN {vs : List V} {ds : List Dt} {i : Int} {z : Dt} (r : RpA K F H vs ds) (h : atI ds i = some z) : ∃ v, atI vs i = some v ∧ Rp K F H v z := by
  unfold atI at h ⊢
  rw [r.length]
  cases e : L2.ixN ds.length i with
  | none => rw [e] at h; cases h
  | some j =>
    rw [e] at h
    exact r.get' h
theorem Rp.sqt {v : V} {ds : List Dt} (h : Rp K F H v (.tuple ds)) : ∃ a xs, v = .ref a ∧ SqT K H a xs ∧ RpA K F H xs ds := by
  cases h with
  | tup h r => exact ⟨_, _, rfl, h, r⟩
theorem RpA.cut {vs : List V} {ds : List Dt} {lo hi : Option Int} (r : RpA K F H vs ds) : RpA K F H (cutV vs lo hi) (cutD ds lo hi) := by
  unfold cutV cutD
  rw [r.length]
  exact (r.drop _).take _

/-! ### x[i] -/
theorem se_ix {ta tb : TE} {ga gb : Gd} {av fr av' fr' : Bool} (ha : SE K W Δ ta (.v av fr) ga) (hb : SE K W Δ tb (.v av' fr') gb) : SE K W Δ (tOp (rIx K) ta tb) (.v av fr) (gOp hIx ga gb) := fun f ρ σ H Q R q => by
  refine ha f ρ σ H _ R ?_
  unfold gOp at q
  cases e1 : ga ρ with
  | bad => rw [e1] at q; exact q
  | ex z => rw [e1] at q; exact q
  | ok d =>
    rw [e1, bnd_ok] at q
    intro v H1 s1 x1
    refine hb f ρ σ H1 _ (R.mono s1) ?_
    cases e2 : gb ρ with
    | bad => rw [e2] at q; exact q
    | ex z => rw [e2] at q; exact fun H' s => q H' (s1.trans s)
    | ok d2 =>
      rw [e2, bnd_ok] at q
      intro v2 H2 s2 x2
      unfold hIx at q
      split at q
      · split at q
        · rename_i z hz
          obtain ⟨a, xs, rfl, hs, r⟩ := (x1.same s2).sql
          obtain ⟨w, hw, rw'⟩ := r.ixN hz
          rw [rpInt x2]
          exact .inl ⟨a, xs, _, w, rfl, rfl, hs, hw, q w H2 (s1.trans s2) rw'⟩
        · exact q.elim
      · split at q
        · rename_i z hz
          obtain ⟨a, xs, rfl, hs, r⟩ := (x1.same s2).sqt
          obtain ⟨w, hw, rw'⟩ := r.ixN hz
          rw [rpInt x2]
          exact .inr (.inl ⟨a, xs, _, w, rfl, rfl, hs, hw, q w H2 (s1.trans s2) rw'⟩)
        · exact q.elim
      · split at q
        · rename_i hl
          split at q
          · rename_i c hc
            rw [rpInt x2]
            cases x1
            exact .inr (.inr ⟨_, _, c, rfl, rfl, sz_le hl, hc, q _ H2 (s1.trans s2) (.str _)⟩)
          · exact q.elim
        · exact q.elim
      · exact q.elim
theorem se_ixO {ta tb : TE} {ga gb : Gd} {fr av' fr' : Bool} (ha : SE K W Δ ta (.o fr) ga) (hb : SE K W Δ tb (.v av' fr') gb) : SE K W Δ (tOp (rIx K) ta tb) (.v true fr) (gOp hIx ga gb) := fun f ρ σ H Q R q => by
  refine ha f ρ σ H _ R ?_
  unfold gOp at q
  cases e1 : ga ρ with
  | bad => rw [e1] at q; exact q
  | ex z => rw [e1] at q; exact q
  | ok d =>
    rw [e1, bnd_ok] at q
    intro p H1 vs ds ed s1 hp gp x1
    subst ed
    refine hb f ρ σ H1 _ (R.mono s1) ?_
    cases e2 : gb ρ with
    | bad => rw [e2] at q; exact q
    | ex z => rw [e2] at q; exact fun H' s => q H' (s1.trans s)
    | ok d2 =>
      rw [e2, bnd_ok] at q
      intro v2 H2 s2 x2
      unfold hIx at q
      cases d2 with
      | int i =>
        simp only at q
        cases hz : atI ds i with
        | some z =>
          rw [hz] at q
          obtain ⟨w, hw, rw'⟩ := (x1.same s2).ixN hz
          rw [rpInt x2]
          exact .inl ⟨p, vs, _, w, rfl, rfl, .inl (.inl (s2 _ _ hp)), hw, q w H2 (s1.trans s2) rw'⟩
        | none => rw [hz] at q; exact q.elim
      | _ => exact q.elim

/-! ### slices -/
abbrev TOp := L2.St → Hp → (Option Int → Hp → Prop) → Prop
def SO (K : PySem.W.Frag) (W : Wt) (Δ : List Kd) (to : TOp) (g : List Dt → O (Option Int)) : Prop := ∀ f ρ σ H Q, R K f Δ ρ σ H →
  (match g ρ with | .bad => False | .ex e => ∀ H', Same H H' → W e σ H' | .ok o => ∀ H', Same H H' → Q o H') → to σ H Q
theorem so_none : SO K W Δ tNoPart gNoPart := fun f ρ σ H Q R q => q H (Same.refl H)
theorem so_some {te : TE} {g : Gd} {av fr : Bool} (h : SE K W Δ te (.v av fr) g) : SO K W Δ (tPart te) (gPart g) := fun f ρ σ H Q R q => by
  refine h f ρ σ H _ R ?_
  unfold gPart at q
  cases e1 : g ρ with
  | bad => rw [e1] at q; exact q
  | ex z => rw [e1] at q; exact q
  | ok d =>
    rw [e1, bnd_ok] at q
    intro v H1 s1 x1
    cases d with
    | int i => rw [rpInt x1]; exact ⟨i, rfl, q H1 s1⟩
    | _ => exact q.elim
theorem se_sl {te : TE} {tl th : TOp} {g : Gd} {gl gh : List Dt → O (Option Int)} {fr : Bool} (h : SE K W Δ te (.v true fr) g) (h1 : SO K W Δ tl gl) (h2 : SO K W Δ th gh) : SE K W Δ (tSl (rSlL K) te tl th) (.new .l fr) (gSl hSl g gl gh) := fun f ρ σ H Q R q => by
  refine h f ρ σ H _ R ?_
  unfold gSl at q
  cases e1 : g ρ with
  | bad => rw [e1] at q; exact q
  | ex z => rw [e1] at q; exact q
  | ok d =>
    rw [e1, bnd_ok] at q
    intro v H1 s1 x1
    refine h1 f ρ σ H1 _ (R.mono s1) ?_
    cases e2 : gl ρ with
    | bad => rw [e2] at q; exact q
    | ex z => rw [e2] at q; exact fun H' s => q H' (s1.trans s)
    | ok lo =>
      rw [e2, bnd_ok] at q
      intro H2 s2
      refine h2 f ρ σ H2 _ ((R.mono s1).mono s2) ?_
      cases e3 : gh ρ with
      | bad => rw [e3] at q; exact q
      | ex z => rw [e3] at q; exact fun H' s => q H' ((s1.trans s2).trans s)
      | ok hi =>
        rw [e3, bnd_ok] at q
        intro H3 s3
        cases d with
        | list ds =>
          obtain ⟨a, xs, rfl, hs, r⟩ := (x1.same (s2.trans s3)).sql
          refine ⟨a, xs, rfl, hs, fun p np => ?_⟩
          have s123 := (s1.trans s2).trans s3
          exact q p _ (s123.free np) (s123.trans (same_upd np)) ⟨_, _, rfl, upd_same, (r.mono (same_upd np) fun a y z => ⟨y, fun e => z (e ▸ np)⟩).cut⟩
        | _ => exact q.elim
theorem se_slO {te : TE} {tl th : TOp} {g : Gd} {gl gh : List Dt → O (Option Int)} {fr : Bool} (h : SE K W Δ te (.o fr) g) (h1 : SO K W Δ tl gl) (h2 : SO K W Δ th gh) : SE K W Δ (tSl (rSlL K) te tl th) (.new .l fr) (gSl hSl g gl gh) := fun f ρ σ H Q R q => by
  refine h f ρ σ H _ R ?_
  unfold gSl at q
  cases e1 : g ρ with
  | bad => rw [e1] at q; exact q
  | ex z => rw [e1] at q; exact q
  | ok d =>
    rw [e1, bnd_ok] at q
    intro pp H1 vs ds ed s1 hp gp x1
    subst ed
    refine h1 f ρ σ H1 _ (R.mono s1) ?_
    cases e2 : gl ρ with
    | bad => rw [e2] at q; exact q
    | ex z => rw [e2] at q; exact fun H' s => q H' (s1.trans s)
    | ok lo =>
      rw [e2, bnd_ok] at q
      intro H2 s2
      refine h2 f ρ σ H2 _ ((R.mono s1).mono s2) ?_
      cases e3 : gh ρ with
      | bad => rw [e3] at q; exact q
      | ex z => rw [e3] at q; exact fun H' s => q H' ((s1.trans s2).trans s)
      | ok hi =>
        rw [e3, bnd_ok] at q
        intro H3 s3
        refine ⟨pp, vs, rfl, .inl (.inl (s3 _ _ (s2 _ _ hp))), fun p np => ?_⟩
        have s123 := (s1.trans s2).trans s3
        exact q p _ (s123.free np) (s123.trans (same_upd np)) ⟨_, _, rfl, upd_same, ((x1.same (s2.trans s3)).mono (same_upd np) fun a y z => ⟨y, fun e => z (e ▸ np)⟩).cut⟩
theorem cut_whole {α : Type} {n : Nat} {xs : List α} (hn : xs.length = n) {lo hi : Option Int} (h : HT.sIx n 0 lo = 0 ∧ HT.sIx n n hi = n) : (xs.drop (HT.sIx n 0 lo)).take (HT.sIx n n hi - HT.sIx n 0 lo) = xs := by
  rw [h.1, h.2, List.drop_zero, Nat.sub_zero]
  exact List.take_of_length_le (Nat.le_of_eq hn)
theorem se_slT {te : TE} {tl th : TOp} {g : Gd} {gl gh : List Dt → O (Option Int)} {av fr : Bool} (h : SE K W Δ te (.v av fr) g) (h1 : SO K W Δ tl gl) (h2 : SO K W Δ th gh) : SE K W Δ (tSl (rSlA K) te tl th) (.v av fr) (gSl hSlT g gl gh) := fun f ρ σ H Q R q => by
  refine h f ρ σ H _ R ?_
  unfold gSl at q
  cases e1 : g ρ with
  | bad => rw [e1] at q; exact q
  | ex z => rw [e1] at q; exact q
  | ok d =>
    rw [e1, bnd_ok] at q
    intro v H1 s1 x1
    refine h1 f ρ σ H1 _ (R.mono s1) ?_
    cases e2 : gl ρ with
    | bad => rw [e2] at q; exact q
    | ex z => rw [e2] at q; exact fun H' s => q H' (s1.trans s)
    | ok lo =>
      rw [e2, bnd_ok] at q
      intro H2 s2
      refine h2 f ρ σ H2 _ ((R.mono s1).mono s2) ?_
      cases e3 : gh ρ with
      | bad => rw [e3] at q; exact q
      | ex z => rw [e3] at q; exact fun H' s => q H' ((s1.trans s2).trans s)
      | ok hi =>
        rw [e3, bnd_ok] at q
        intro H3 s3
        cases d with
        | tuple ds =>
          obtain ⟨a, xs, rfl, hs, r⟩ := (x1.same (s2.trans s3)).sqt
          have s123 := (s1.trans s2).trans s3
          refine ⟨a, xs, rfl, hs, fun w => ?_, fun w p np => ?_⟩
          · refine q _ H3 s123 ?_
            have e : cutD ds lo hi = ds := by
              unfold cutD
              rw [← r.length]
              exact cut_whole (by rw [r.length]) w
            rw [e]
            exact .tup hs r
          · exact q _ _ (s123.trans (same_upd np)) (.tup (.inl (.inl upd_same)) (r.same (same_upd np)).cut)
        | _ => exact q.elim

/-! ### list + list, list * int, list(x), tuple(x), sorted -/
def rCatS (K : PySem.W.Frag) : R2 := fun x y H Q => ∃ l b xs zs, x = .ref l ∧ y = .ref b ∧ SqL K H l xs ∧ SqL K H b zs ∧ xs.length + zs.length ≤ sizeLine ∧ ∀ p, H p = none → Q (.ref p) (upd H p (.lst (xs ++ zs)))
theorem op_catS {X : Cx} : OpR X (binaryOp .Add) (rCatS X.K) := by
  intro pins s σ H x y v u Q I rx ry h
  obtain ⟨l, b, xs, zs, rfl, rfl, hH, hB, hz, q⟩ := h
  cases rx
  cases ry
  obtain ⟨its, r, ⟨⟨cls, dd, data, sl⟩, n, ho, hc, hd, hdt⟩, hl⟩ := I.list hH
  obtain ⟨its2, r2, ⟨⟨cls2, dd2, data2, sl2⟩, n2, ho2, hc2, hd2, hdt2⟩, hl2⟩ := I.list hB
  simp only at hc hdt hc2 hdt2
  subst hc hdt hc2 hdt2
  have ea : its.toArray ++ its2.toArray = (its ++ its2).toArray := by simp
  have e1 := r.length
  have e2 := r2.length
  refine concat_meets ⟨_, ho, rfl⟩ ⟨_, ho2, rfl⟩ noFill_list_add seq_list_add PySem.F.slot_list_add PySem.F.entry_list_add (PySem.F.args_list_add_2 _ _) (PyProof.Rows.list_addW l b its.toArray its2.toArray n n2 dd dd2 sl sl2 (by rw [List.size_toArray, List.size_toArray]; omega)) ⟨ho, ho2, ?_⟩
  rw [ea]
  exact ⟨.ref _, _, I.lnew (t' := s.toks) (r.append r2) (by rw [List.length_append]; omega), rfl, q _ I.fresh⟩
theorem se_cat {ta tb : TE} {ga gb : Gd} {fr fr' : Bool} (ha : SE K W Δ ta (.v true fr) ga) (hb : SE K W Δ tb (.v true fr') gb) : SE K W Δ (tOp (rCatS K) ta tb) (.new .l (fr && fr')) (gOp hCat ga gb) := fun f ρ σ H Q R q => by
  refine ha f ρ σ H _ R ?_
  unfold gOp at q
  cases e1 : ga ρ with
  | bad => rw [e1] at q; exact q
  | ex z => rw [e1] at q; exact q
  | ok d =>
    rw [e1, bnd_ok] at q
    intro v H1 s1 x1
    refine hb f ρ σ H1 _ (R.mono s1) ?_
    cases e2 : gb ρ with
    | bad => rw [e2] at q; exact q
    | ex z => rw [e2] at q; exact fun H' s => q H' (s1.trans s)
    | ok d2 =>
      rw [e2, bnd_ok] at q
      intro v2 H2 s2 x2
      unfold hCat at q
      split at q
      · split at q
        · rename_i hz
          obtain ⟨a, xs, rfl, hs, r⟩ := (x1.same s2).sql
          obtain ⟨b, ys, rfl, hs2, r2⟩ := x2.sql
          refine ⟨a, b, xs, ys, rfl, rfl, hs, hs2, sz_le (by rw [r.length, r2.length]; exact hz), fun p np => ?_⟩
          have s12 := s1.trans s2
          refine q p _ (s12.free np) (s12.trans (same_upd np)) ⟨_, _, rfl, upd_same, ?_⟩
          exact (r.mono (same_upd np) fun a y z => ⟨y.weak id (fun h => (Bool.and_eq_true_iff.mp h).1), fun e => z (e ▸ np)⟩).append
            (r2.mono (same_upd np) fun a y z => ⟨y.weak id (fun h => (Bool.and_eq_true_iff.mp h).2), fun e => z (e ▸ np)⟩)
        · exact q.elim
      · exact q.elim
theorem se_catO {ta tb : TE} {ga gb : Gd} {fr fr' : Bool} (ha : SE K W Δ ta (.o fr) ga) (hb : SE K W Δ tb (.v true fr') gb) : SE K W Δ (tOp (rCatS K) ta tb) (.new .l (fr && fr')) (gOp hCat ga gb) := fun f ρ σ H Q R q => by
  refine ha f ρ σ H _ R ?_
  unfold gOp at q
  cases e1 : ga ρ with
  | bad => rw [e1] at q; exact q
  | ex z => rw [e1] at q; exact q
  | ok d =>
    rw [e1, bnd_ok] at q
    intro pp H1 vs ds ed s1 hp gp x1
    subst ed
    refine hb f ρ σ H1 _ (R.mono s1) ?_
    cases e2 : gb ρ with
    | bad => rw [e2] at q; exact q
    | ex z => rw [e2] at q; exact fun H' s => q H' (s1.trans s)
    | ok d2 =>
      rw [e2, bnd_ok] at q
      intro v2 H2 s2 x2
      cases d2 with
      | list es =>
        unfold hCat at q
        simp only at q
        by_cases hz : ds.length + es.length ≤ 100000
        · rw [if_pos hz] at q
          obtain ⟨b, ys, rfl, hs2, r2⟩ := x2.sql
          have r := x1.same s2
          refine ⟨pp, b, vs, ys, rfl, rfl, .inl (.inl (s2 _ _ hp)), hs2, sz_le (by rw [r.length, r2.length]; exact hz), fun p np => ?_⟩
          have s12 := s1.trans s2
          refine q p _ (s12.free np) (s12.trans (same_upd np)) ⟨_, _, rfl, upd_same, ?_⟩
          exact (r.mono (same_upd np) fun a y z => ⟨y.weak id (fun h => (Bool.and_eq_true_iff.mp h).1), fun e => z (e ▸ np)⟩).append
            (r2.mono (same_upd np) fun a y z => ⟨y.weak id (fun h => (Bool.and_eq_true_iff.mp h).2), fun e => z (e ▸ np)⟩)
        · rw [if_neg hz] at q
          exact q.elim
      | _ => exact q.elim
theorem se_rep {ta tb : TE} {ga gb : Gd} {fr av' fr' : Bool} (ha : SE K W Δ ta (.new .l fr) ga) (hb : SE K W Δ tb (.v av' fr') gb) : SE K W Δ (tOp rRep ta tb) (.new .l fr) (gOp hRep ga gb) := fun f ρ σ H Q R q => by
  refine ha f ρ σ H _ R ?_
  unfold gOp at q
  cases e1 : ga ρ with
  | bad => rw [e1] at q; exact q
  | ex z => rw [e1] at q; exact q
  | ok d =>
    rw [e1, bnd_ok] at q
    intro pp H1 npp s1 x1
    obtain ⟨vs, ds, ed, hp, x1⟩ := x1
    subst ed
    refine hb f ρ σ H1 _ (R.mono s1) ?_
    cases e2 : gb ρ with
    | bad => rw [e2] at q; exact q
    | ex z => rw [e2] at q; exact fun H' s => q H' (s1.trans s)
    | ok d2 =>
      rw [e2, bnd_ok] at q
      intro v2 H2 s2 x2
      cases d2 with
      | int k =>
        unfold hRep at q
        simp only at q
        by_cases hz : -(2 ^ 63) ≤ k ∧ k < 2 ^ 63 ∧ ds.length * k.toNat ≤ 100000
        · rw [if_pos hz] at q
          have r := x1.same s2
          rw [rpInt x2]
          refine ⟨pp, k, vs, rfl, rfl, s2 _ _ hp, hz.1, hz.2.1, sz_le (by rw [r.length]; exact hz.2.2), fun p np => ?_⟩
          have s12 := s1.trans s2
          exact q p _ (s12.free np) (s12.trans (same_upd np)) ⟨_, _, rfl, upd_same, (r.mono (same_upd np) fun a y z => ⟨y.1, fun e => z (e ▸ np)⟩).flat _⟩
        · rw [if_neg hz] at q
          exact q.elim
      | _ => exact q.elim
theorem one_eq {h : Dt → O Dt} {ds : List Dt} : (∃ d, ds = [d] ∧ one h ds = h d) ∨ one h ds = .bad := by
  match ds with
  | [] => exact .inr rfl
  | [d] => exact .inl ⟨d, rfl, rfl⟩
  | _ :: _ :: _ => exact .inr rfl
/-- a new list of what one argument holds -/
def rListOf (K : PySem.W.Frag) : List V → Hp → VK → Prop := fun xs H Q => ∃ p ys, xs = [.ref p] ∧ (SqL K H p ys ∨ SqT K H p ys) ∧ ∀ l, H l = none → Q (.ref l) (upd H l (.lst ys))
theorem se_listOf {tA : TA} {gA : List Dt → O (List Dt)} {fr : Bool} (ha : SA K W Δ tA true fr gA) : SE K W Δ (tCB (rListOf K) tA) (.new .l fr) (gCB (one hListOf) gA) := fun f ρ σ H Q R q => by
  refine ha f ρ σ H _ R ?_
  unfold gCB at q
  cases e1 : gA ρ with
  | bad => rw [e1] at q; exact q
  | ex z => rw [e1] at q; exact q
  | ok ds =>
    rw [e1, bnd_ok] at q
    intro vs H1 s1 x1
    rcases one_eq (h := hListOf) (ds := ds) with ⟨d, rfl, e⟩ | e
    · rw [e] at q
      cases x1 with
      | cons x1 xr =>
        cases xr
        cases d with
        | list es =>
          obtain ⟨a, xs, rfl, hs, r⟩ := x1.sql
          exact ⟨a, xs, rfl, .inl hs, fun l nl => q l _ (s1.free nl) (s1.trans (same_upd nl)) ⟨_, _, rfl, upd_same, r.mono (same_upd nl) fun a y z => ⟨y, fun e => z (e ▸ nl)⟩⟩⟩
        | tuple es =>
          obtain ⟨a, xs, rfl, hs, r⟩ := x1.sqt
          exact ⟨a, xs, rfl, .inr hs, fun l nl => q l _ (s1.free nl) (s1.trans (same_upd nl)) ⟨_, _, rfl, upd_same, r.mono (same_upd nl) fun a y z => ⟨y, fun e => z (e ▸ nl)⟩⟩⟩
        | _ => exact q.elim
    · rw [e] at q
      exact q.elim
/-- list(own) -/
theorem se_listOwn {te : TE} {g : Gd} {fr : Bool} (ha : SE K W Δ te (.o fr) g) : SE K W Δ (tCB (rListOf K) (tCons te tNil)) (.new .l fr) (gCB (one hListOf) (gCons g gNil)) := fun f ρ σ H Q R q => by
  refine ha f ρ σ H _ R ?_
  unfold gCB gCons gNil at q
  cases e1 : g ρ with
  | bad => rw [e1] at q; exact q
  | ex z => rw [e1] at q; exact q
  | ok d =>
    rw [e1, bnd_ok, bnd_ok, bnd_ok] at q
    intro p H1 vs ds ed s1 hp gp x1
    subst ed
    exact ⟨p, vs, rfl, .inl (.inl (.inl hp)), fun l nl => q l _ (s1.free nl) (s1.trans (same_upd nl)) ⟨_, _, rfl, upd_same, x1.mono (same_upd nl) fun a y z => ⟨y, fun e => z (e ▸ nl)⟩⟩⟩
theorem se_tupOf {tA : TA} {gA : List Dt → O (List Dt)} {av fr : Bool} (ha : SA K W Δ tA av fr gA) : SE K W Δ (tCB (fun xs H Q => ∃ p ys, xs = [.ref p] ∧ ((SqL K H p ys ∧ ∀ l, H l = none → Q (.ref l) (upd H l (.tup ys))) ∨ (SqT K H p ys ∧ Q (.ref p) H))) tA) (.v av fr) (gCB (one hTupOf) gA) := fun f ρ σ H Q R q => by
  refine ha f ρ σ H _ R ?_
  unfold gCB at q
  cases e1 : gA ρ with
  | bad => rw [e1] at q; exact q
  | ex z => rw [e1] at q; exact q
  | ok ds =>
    rw [e1, bnd_ok] at q
    intro vs H1 s1 x1
    rcases one_eq (h := hTupOf) (ds := ds) with ⟨d, rfl, e⟩ | e
    · rw [e] at q
      cases x1 with
      | cons x1 xr =>
        cases xr
        cases d with
        | list es =>
          obtain ⟨a, xs, rfl, hs, r⟩ := x1.sql
          exact ⟨a, xs, rfl, .inl ⟨hs, fun l nl => q _ _ (s1.trans (same_upd nl)) (.tup (.inl (.inl upd_same)) (r.same (same_upd nl)))⟩⟩
        | tuple es =>
          obtain ⟨a, xs, rfl, hs, r⟩ := x1.sqt
          exact ⟨a, xs, rfl, .inr ⟨hs, q _ _ s1 (.tup hs r)⟩⟩
        | _ => exact q.elim
    · rw [e] at q
      exact q.elim
theorem isort_perm (ns : List Int) : (isort ns).Perm ns := List.mergeSort_perm _ _
theorem isort_sorted (ns : List Int) : (isort ns).Pairwise (· ≤ ·) := by
  have h := List.pairwise_mergeSort (le := fun (a b : Int) => decide (a ≤ b)) (fun a b c h1 h2 => by
    rw [decide_eq_true_eq] at *; omega) (fun a b => by
    rw [Bool.or_eq_true, decide_eq_true_eq, decide_eq_true_eq]; omega) ns
  exact h.imp fun h => of_decide_eq_true h
theorem sorted_unique : ∀ {a b : List Int}, a.Perm b → a.Pairwise (· ≤ ·) → b.Pairwise (· ≤ ·) → a = b
  | [], b, p, _, _ => (List.Perm.nil_eq p)
  | x :: a, [], p, _, _ => absurd p.length_eq (by simp)
  | x :: a, y :: b, p, ha, hb => by
    have h1 : y ≤ x := by
      have : x ∈ y :: b := p.subset List.mem_cons_self
      rcases List.mem_cons.mp this with e | h
      · omega
      · exact (List.pairwise_cons.mp hb).1 x h
    have h2 : x ≤ y := by
      have : y ∈ x :: a := p.symm.subset List.mem_cons_self
      rcases List.mem_cons.mp this with e | h
      · omega
      · exact (List.pairwise_cons.mp ha).1 y h
    have e : x = y := by omega
    subst e
    rw [sorted_unique (List.Perm.cons_inv p) (List.pairwise_cons.mp ha).2 (List.pairwise_cons.mp hb).2]
theorem rpA_ints {F : Addr → Prop} {H : Hp} : ∀ ns : List Int, RpA K F H (ns.map V.int) (ns.map PyData.int)
  | [] => .nil
  | n :: ns => .cons (.int n) (rpA_ints ns)
theorem se_sorted {tA : TA} {gA : List Dt → O (List Dt)} {av fr : Bool} (ha : SA K W Δ tA av fr gA) : SE K W Δ (tCB (rSortedI K) tA) (.new .l true) (gCB (one hSorted) gA) := fun f ρ σ H Q R q => by
  refine ha f ρ σ H _ R ?_
  unfold gCB at q
  cases e1 : gA ρ with
  | bad => rw [e1] at q; exact q
  | ex z => rw [e1] at q; exact q
  | ok ds =>
    rw [e1, bnd_ok] at q
    intro vs H1 s1 x1
    rcases one_eq (h := hSorted) (ds := ds) with ⟨d, rfl, e⟩ | e
    · rw [e] at q
      cases x1 with
      | cons x1 xr =>
        cases xr
        cases d with
        | list es =>
          unfold hSorted at q
          simp only at q
          cases ea : allI es with
          | none => rw [ea] at q; exact q.elim
          | some ns =>
            rw [ea] at q
            obtain ⟨a, xs, rfl, hs, r⟩ := x1.sql
            rw [rp_ints r ea] at hs
            refine ⟨a, ns, rfl, hs, fun ns' l p1 p2 nl => ?_⟩
            have e2 : ns' = isort ns := sorted_unique (p1.trans (isort_perm ns).symm) p2 (isort_sorted ns)
            subst e2
            exact q l _ (s1.free nl) (s1.trans (same_upd nl)) ⟨_, _, rfl, upd_same, rpA_ints _⟩
        | _ => exact q.elim
    · rw [e] at q
      exact q.elim
end

/-! ### what is walked -/
def Sc (K : PySem.W.Frag) (J : It) (pf : Option (Addr × HO)) (vs : List V) (es ds : List Dt) : Prop :=
  Walk J ds.length (fun H => (∀ q, pf = some q → H q.1 = some q.2) ∧ ∃ F, RpA K F H vs es) (fun i H x H' => Same H H' ∧ ∀ F, RpA K F H vs es → ∃ e, ds[i]? = some e ∧ Rp K F H' x e)
def SI (K : PySem.W.Frag) (W : Wt) (Δ : List Kd) (wi : TI) (b fr : Bool) (g : List Dt → O (List Dt)) : Prop := ∀ f ρ σ H Rk, R K f Δ ρ σ H →
  (match g ρ with
    | .bad => False
    | .ex e => ∀ H', Same H H' → W e σ H'
    | .ok ds => ∀ J H' pf vs es, Same H H' → (b = false → pf = none) → (∀ q, pf = some q → H' q.1 = some q.2) → RpA K (FM f Δ σ true fr) H' vs es → Sc K J pf vs es ds → Rk J H') → wi σ H Rk
structure ID (X : Cx) (K : PySem.W.Frag) (W : Wt) (Δ : List Kd) (tg iter : Expr) (wi : TI) (b fr : Bool) (g : List Dt → O (List Dt)) : Prop where
  pi : PI X tg iter wi
  hK : X.K = K
  si : SI K W Δ wi b fr g

def gSeq (g : Gd) : List Dt → O (List Dt) := fun ρ => bnd (g ρ) fun d => match d with
  | .list ds => .ok ds
  | .tuple ds => .ok ds
  | _ => .bad
def rangeD (lo hi : Int) : List Dt := (List.range (hi - lo).toNat).map fun (i : Nat) => .int (lo + (i : Int))
def rng1 : List Dt → Option (Int × Int)
  | [.int j] => if -(2 ^ 62) ≤ j ∧ j < 2 ^ 62 then some (0, j) else none
  | _ => none
def rng2 : List Dt → Option (Int × Int)
  | [.int i, .int j] => if -(2 ^ 62) ≤ i ∧ i < 2 ^ 62 ∧ -(2 ^ 62) ≤ j ∧ j < 2 ^ 62 then some (i, j) else none
  | _ => none
def gRng1 (g : List Dt → O (List Dt)) : List Dt → O (List Dt) := fun ρ => bnd (g ρ) fun ds => match rng1 ds with
  | some p => .ok (rangeD p.1 p.2)
  | none => .bad
def gRng2 (g : List Dt → O (List Dt)) : List Dt → O (List Dt) := fun ρ => bnd (g ρ) fun ds => match rng2 ds with
  | some p => .ok (rangeD p.1 p.2)
  | none => .bad

def iSeq (K : PySem.W.Frag) (tl : TE) : TI := fun σ H R => tl σ H fun x H1 => ∃ a, x = .ref a ∧ (((∃ xs, SqL K H1 a xs) ∧ R (Itl K a) H1) ∨ ((∃ xs, SqT K H1 a xs) ∧ R (Itt K a) H1))
theorem pi_seq {X : Cx} {tg l : Expr} {tl : TE} (hl : PE X l tl) : PI X tg l (iSeq X.K tl) := by
  refine ⟨fun pins s σ H R I h => ?_⟩
  refine thn (hl.run pins s σ H _ I h) fun v s1 ⟨x, H1, I1, r1, q1⟩ => ?_
  obtain ⟨a, e, q⟩ := q1
  subst e
  cases r1
  rcases q with ⟨⟨xs, hq⟩, q⟩ | ⟨⟨xs, hq⟩, q⟩
  · obtain ⟨its, rv, p, hz⟩ := I1.list hq
    refine wpAny_pyIter_list p.isList ?_
    refine ⟨s1.heap.objs.size, [s1.heap.objs.size], _, _, H1, rfl, I1.kept (t' := s1.toks) fun b o e => Heap.get?_push_of_some _ e, turn_list a _, ⟨_, Heap.get?_push_size _ rfl, rfl, rfl⟩, fun b hb => ?_, q⟩
    have e : b = s1.heap.objs.size := by simpa using hb
    subst e
    exact I1.fpOk (Nat.le_refl _) (I1.hok.fresh (Nat.le_refl _))
  · obtain ⟨its, rv, p, hz⟩ := I1.tuple hq
    refine wpAny_pyIter_tuple (show s1.heap.IsTuple a its.toArray from p) ?_
    refine ⟨s1.heap.objs.size, [s1.heap.objs.size], _, _, H1, rfl, I1.kept (t' := s1.toks) fun b o e => Heap.get?_push_of_some _ e, turn_tuple a _, ⟨_, Heap.get?_push_size _ rfl, rfl, rfl⟩, fun b hb => ?_, q⟩
    have e : b = s1.heap.objs.size := by simpa using hb
    subst e
    exact I1.fpOk (Nat.le_refl _) (I1.hok.fresh (Nat.le_refl _))

section
variable {K : PySem.W.Frag} {W : Wt} {Δ : List Kd}
theorem sc_list {a : Addr} {ds : List Dt} : Sc K (Itl K a) none [.ref a] [.list ds] ds where
  goes := fun i H hi ⟨_, F, r⟩ => by
    cases r with
    | cons h _ =>
      obtain ⟨b, xs, e, hs, r⟩ := h.sql
      cases e
      have hx : i < xs.length := by rw [r.length]; exact hi
      exact ⟨xs, xs[i], hs, List.getElem?_eq_getElem hx⟩
  stops := fun H ⟨_, F, r⟩ => by
    cases r with
    | cons h _ =>
      obtain ⟨b, xs, e, hs, r⟩ := h.sql
      cases e
      exact ⟨xs, hs, Nat.le_of_eq r.length⟩
  yields := fun i H x H' hi _ y => by
    obtain ⟨e, y⟩ := y
    subst e
    refine ⟨Same.refl _, fun F r => ?_⟩
    cases r with
    | cons h _ =>
      obtain ⟨b, xs, e, hs, r⟩ := h.sql
      cases e
      exact r.get (y xs hs)
theorem sc_tup {a : Addr} {ds : List Dt} : Sc K (Itt K a) none [.ref a] [.tuple ds] ds where
  goes := fun i H hi ⟨_, F, r⟩ => by
    cases r with
    | cons h _ =>
      obtain ⟨b, xs, e, hs, r⟩ := h.sqt
      cases e
      have hx : i < xs.length := by rw [r.length]; exact hi
      exact ⟨xs, xs[i], hs, List.getElem?_eq_getElem hx⟩
  stops := fun H ⟨_, F, r⟩ => by
    cases r with
    | cons h _ =>
      obtain ⟨b, xs, e, hs, r⟩ := h.sqt
      cases e
      exact ⟨xs, hs, Nat.le_of_eq r.length⟩
  yields := fun i H x H' hi _ y => by
    obtain ⟨e, y⟩ := y
    subst e
    refine ⟨Same.refl _, fun F r => ?_⟩
    cases r with
    | cons h _ =>
      obtain ⟨b, xs, e, hs, r⟩ := h.sqt
      cases e
      exact r.get (y xs hs)
theorem sc_own {a : Addr} {vs : List V} {ds : List Dt} (hl : vs.length = ds.length) : Sc K (Itl K a) (some (a, .lst vs)) vs ds ds where
  goes := fun i H hi ⟨h, F, r⟩ => by
    have hx : i < vs.length := by rw [r.length]; exact hi
    exact ⟨vs, vs[i], .inl (.inl (h _ rfl)), List.getElem?_eq_getElem hx⟩
  stops := fun H ⟨h, F, r⟩ => ⟨vs, .inl (.inl (h _ rfl)), Nat.le_of_eq hl⟩
  yields := fun i H x H' hi ⟨h, _⟩ y => by
    obtain ⟨e, y⟩ := y
    subst e
    exact ⟨Same.refl _, fun F r => r.get (y vs (.inl (.inl (h _ rfl))))⟩
theorem rangeD_len (lo hi : Int) : (rangeD lo hi).length = (hi - lo).toNat := by unfold rangeD; simp
theorem sc_range {lo hi : Int} : Sc K (Itr lo (hi - lo).toNat) none [] [] (rangeD lo hi) where
  goes := fun i H hi' _ => by rw [rangeD_len] at hi'; exact hi'
  stops := fun H _ => by rw [rangeD_len]; exact Nat.le_refl _
  yields := fun i H x H' hi' _ y => by
    obtain ⟨e, y⟩ := y
    subst e y
    refine ⟨Same.refl _, fun F r => ⟨_, ?_, .int _⟩⟩
    rw [rangeD_len] at hi'
    unfold rangeD
    rw [List.getElem?_map, List.getElem?_range hi']
    rfl
theorem si_seq {te : TE} {g : Gd} {fr : Bool} (h : SE K W Δ te (.v true fr) g) : SI K W Δ (iSeq K te) false fr (gSeq g) := fun f ρ σ H Rk R q => by
  refine h f ρ σ H _ R ?_
  unfold gSeq at q
  cases e1 : g ρ with
  | bad => rw [e1] at q; exact q
  | ex z => rw [e1] at q; exact q
  | ok d =>
    rw [e1, bnd_ok] at q
    intro v H1 s1 x1
    cases d with
    | list ds =>
      obtain ⟨a, xs, rfl, hs, r⟩ := x1.sql
      exact ⟨a, rfl, .inl ⟨⟨xs, hs⟩, q _ H1 none [.ref a] [.list ds] s1 (fun _ => rfl) (fun _ e => nomatch e) (.cons x1 .nil) sc_list⟩⟩
    | tuple ds =>
      obtain ⟨a, xs, rfl, hs, r⟩ := x1.sqt
      exact ⟨a, rfl, .inr ⟨⟨xs, hs⟩, q _ H1 none [.ref a] [.tuple ds] s1 (fun _ => rfl) (fun _ e => nomatch e) (.cons x1 .nil) sc_tup⟩⟩
    | _ => exact q.elim
theorem si_own {te : TE} {g : Gd} {fr : Bool} (h : SE K W Δ te (.o fr) g) : SI K W Δ (iSeq K te) true fr (gSeq g) := fun f ρ σ H Rk R q => by
  refine h f ρ σ H _ R ?_
  unfold gSeq at q
  cases e1 : g ρ with
  | bad => rw [e1] at q; exact q
  | ex z => rw [e1] at q; exact q
  | ok d =>
    rw [e1, bnd_ok] at q
    intro p H1 vs ds ed s1 hp gp x1
    subst ed
    exact ⟨p, rfl, .inl ⟨⟨vs, .inl (.inl hp)⟩, q _ H1 (some (p, .lst vs)) vs ds s1 (fun e => nomatch e) (fun _ e => by cases e; exact hp) x1 (sc_own x1.length)⟩⟩
theorem si_rng1 {tA : TA} {gA : List Dt → O (List Dt)} {av fr : Bool} (h : SA K W Δ tA av fr gA) : SI K W Δ (iRng1 tA) false true (gRng1 gA) := fun f ρ σ H Rk R q => by
  refine h f ρ σ H _ R ?_
  unfold gRng1 at q
  cases e1 : gA ρ with
  | bad => rw [e1] at q; exact q
  | ex z => rw [e1] at q; exact q
  | ok ds =>
    rw [e1, bnd_ok] at q
    intro vs H1 s1 x1
    cases er : rng1 ds with
    | none => rw [er] at q; exact q.elim
    | some p =>
      rw [er] at q
      unfold rng1 at er
      split at er
      · split at er
        · rename_i j c
          cases er
          cases x1 with
          | cons x1 xr =>
            cases xr
            rw [rpInt x1]
            refine ⟨j, rfl, c.1, c.2, ?_⟩
            have w := q (Itr 0 (j - 0).toNat) H1 none [] [] s1 (fun _ => rfl) (fun _ e => nomatch e) .nil sc_range
            rw [Int.sub_zero] at w
            exact w
        · cases er
      · cases er

theorem si_rng2 {tA : TA} {gA : List Dt → O (List Dt)} {av fr : Bool} (h : SA K W Δ tA av fr gA) : SI K W Δ (iRng2 tA) false true (gRng2 gA) := fun f ρ σ H Rk R q => by
  refine h f ρ σ H _ R ?_
  unfold gRng2 at q
  cases e1 : gA ρ with
  | bad => rw [e1] at q; exact q
  | ex z => rw [e1] at q; exact q
  | ok ds =>
    rw [e1, bnd_ok] at q
    intro vs H1 s1 x1
    cases er : rng2 ds with
    | none => rw [er] at q; exact q.elim
    | some p =>
      rw [er] at q
      unfold rng2 at er
      split at er
      · split at er
        · rename_i i j c
          cases er
          cases x1 with
          | cons x1 xr =>
            cases xr with
            | cons x2 xr =>
              cases xr
              rw [rpInt x1, rpInt x2]
              exact ⟨i, j, rfl, c, q (Itr i (j - i).toNat) H1 none [] [] s1 (fun _ => rfl) (fun _ e => nomatch e) .nil sc_range⟩
        · cases er
      · cases er

end
end Sim
end T_SimD

section T_SimE
set_option Elab.async false
set_option linter.all false
set_option maxRecDepth 100000
/-! SimE: targets, comprehensions, calls. -/
namespace Sim
open PySem PySem.Spec L2
open PyProof.Rows hiding St

/-! ### weaker kinds -/
def bLe (a b : Bool) : Bool := !b || a
def kLe : Kd → Kd → Bool
  | _, .no => true
  | .im a, .im b => bLe a b
  | .own .l a, .im b => bLe a b
  | .own .l a, .own .l b => bLe a b
  | .own .dk a, .own .dk b => bLe a b
  | .own .dt a, .own .dt b => bLe a b
  | .own .la a, .own .la b => bLe a b
  | .own .ka a, .own .ka b => bLe a b
  | _, _ => false
def leA : List Kd → List Kd → Bool
  | [], [] => true
  | k :: ks, l :: ls => kLe k l && leA ks ls
  | _, _ => false
theorem bLe_imp {a b : Bool} (h : bLe a b = true) : b = true → a = true := fun e => by subst e; cases a; cases h; rfl
theorem leA_len : ∀ {Δ Δ' : List Kd}, leA Δ Δ' = true → Δ.length = Δ'.length
  | [], [], _ => rfl
  | [], _ :: _, h => by cases h
  | _ :: _, [], h => by cases h
  | k :: ks, l :: ls, h => by
    unfold leA at h
    rw [Bool.and_eq_true] at h
    rw [List.length_cons, List.length_cons, leA_len h.2]
theorem leA_get : ∀ {Δ Δ' : List Kd}, leA Δ Δ' = true → ∀ {i : Nat} {k' : Kd}, Δ'[i]? = some k' → ∃ k, Δ[i]? = some k ∧ kLe k k' = true
  | [], [], _, i, k', h => by simp at h
  | [], _ :: _, h, _, _, _ => by cases h
  | _ :: _, [], h, _, _, _ => by cases h
  | k :: ks, l :: ls, h, 0, k', e => by
    unfold leA at h
    rw [Bool.and_eq_true] at h
    simp at e; subst e
    exact ⟨k, rfl, h.1⟩
  | k :: ks, l :: ls, h, i + 1, k', e => by
    unfold leA at h
    rw [Bool.and_eq_true] at h
    obtain ⟨q, h1, h2⟩ := leA_get h.2 (i := i) (k' := k') (by simpa using e)
    exact ⟨q, by simpa using h1, h2⟩
theorem kLe_own {k : Kd} {c : Ct} {fr : Bool} (h : kLe k (.own c fr) = true) : ∃ fr', k = .own c fr' ∧ (fr = true → fr' = true) := by
  cases k with
  | no => cases c <;> cases h
  | im a => cases c <;> cases h
  | own c' a => cases c' <;> cases c <;> first | (cases h; done) | exact ⟨a, rfl, bLe_imp h⟩
theorem kLe_im {k : Kd} {fr : Bool} (h : kLe k (.im fr) = true) : (∃ fr', k = .im fr' ∧ (fr = true → fr' = true)) ∨ ∃ fr', k = .own .l fr' ∧ (fr = true → fr' = true) := by
  cases k with
  | no => cases h
  | im a => exact .inl ⟨a, rfl, bLe_imp h⟩
  | own c' a => cases c' <;> first | (cases h; done) | exact .inr ⟨a, rfl, bLe_imp h⟩

section
variable {K : PySem.W.Frag} {f : Fm} {Δ Δ' : List Kd} {ρ : List Dt} {σ σ' : L2.St} {H : Hp}
theorem R.weak (r : R K f Δ ρ σ H) (h : leA Δ Δ' = true) : R K f Δ' ρ σ H := by
  have ow' : ∀ a, Ow Δ' σ a → Ow Δ σ a := fun a ⟨i, c, fr, h1, h2⟩ => by
    obtain ⟨k, e, hk⟩ := leA_get h h1
    obtain ⟨fr', rfl, _⟩ := kLe_own hk
    exact ⟨i, c, fr', e, h2⟩
  have key : ∀ {fr fr' : Bool} {v : V} {d : Dt}, (fr' = true → fr = true) → Rp K (FM f Δ σ true fr) H v d → Rp K (FM f Δ' σ true fr') H v d := fun hf h =>
    h.weak fun a fa => ⟨fun _ => ⟨fun z => (fa.1 rfl).1 (ow' a z), (fa.1 rfl).2⟩, fun e => fa.2 (hf e)⟩
  refine ⟨r.ext, r.g0, by rw [r.lσ, leA_len h], by rw [r.lρ, leA_len h], ?_, fun a ha => ⟨(r.pin a ha).1, fun z => (r.pin a ha).2 (ow' a z)⟩, fun g hg => (r.gh g hg).map fun _ _ x => key id x, fun i fr h' => ?_, fun i c fr h' => ?_, fun i c fr h' ha => ?_⟩
  · intro i j ci fi cj fj p h1 h2 h3 h4
    obtain ⟨k, e, hk⟩ := leA_get h h1
    obtain ⟨fr', rfl, _⟩ := kLe_own hk
    obtain ⟨k2, e2, hk2⟩ := leA_get h h2
    obtain ⟨fr2, rfl, _⟩ := kLe_own hk2
    exact r.inj i j _ _ _ _ p e e2 h3 h4
  · obtain ⟨k, e, hk⟩ := leA_get h h'
    rcases kLe_im hk with ⟨fr', rfl, hf⟩ | ⟨fr', rfl, hf⟩
    · obtain ⟨v, d, h1, h2, h3⟩ := r.im i fr' e
      exact ⟨v, d, h1, h2, key hf h3⟩
    · obtain ⟨p, d, h1, h2, h3, vs, ds, ed, hp, h4⟩ := r.ow i .l fr' e
      subst ed
      refine ⟨.ref p, _, h1, h2, .lst hp ⟨fun _ => ⟨fun z => ?_, fun z => ?_⟩, fun _ => r.g0 p h3⟩ (h4.map fun _ _ x => key hf x)⟩
      · obtain ⟨j, c, frj, g1, g2⟩ := z
        obtain ⟨k2, e2, hk2⟩ := leA_get h g1
        obtain ⟨fr2, rfl, _⟩ := kLe_own hk2
        have ij := r.inj i j _ _ _ _ p e e2 h1 g2
        subst ij
        rw [h'] at g1
        cases g1
      · exact (r.pin p z).2 ⟨i, .l, fr', e, h1⟩
  · obtain ⟨k, e, hk⟩ := leA_get h h'
    obtain ⟨fr', rfl, hf⟩ := kLe_own hk
    obtain ⟨p, d, h1, h2, h3, h4⟩ := r.ow i c fr' e
    exact ⟨p, d, h1, h2, h3, h4.map (fun o e => e) fun _ _ x => key hf x⟩
  · obtain ⟨k, e, hk⟩ := leA_get h h'
    obtain ⟨fr', rfl, hf⟩ := kLe_own hk
    exact r.ar i c fr' e ha

/-! ### targets -/
structure TgOk (K : PySem.W.Frag) (f : Fm) (Δ Δ' : List Kd) (ρ' : List Dt) (σ σ' : L2.St) (H : Hp) (sl : List Nat) : Prop where
  r : R K f Δ' ρ' σ' H
  keep : ∀ i, i ∉ sl → Δ'[i]? = Δ[i]? ∧ σ'[i]? = σ[i]?
  im : ∀ i, i ∈ sl → ∃ fr, Δ'[i]? = some (.im fr)
  len : Δ'.length = Δ.length
theorem TgOk.ow {ρ' : List Dt} {sl : List Nat} (t : TgOk K f Δ Δ' ρ' σ σ' H sl) {a : Addr} (h : Ow Δ' σ' a) : Ow Δ σ a := by
  obtain ⟨i, c, fr, h1, h2⟩ := h
  by_cases z : i ∈ sl
  · obtain ⟨fr', e⟩ := t.im i z
    rw [e] at h1; cases h1
  · obtain ⟨e1, e2⟩ := t.keep i z
    exact ⟨i, c, fr, e1 ▸ h1, e2 ▸ h2⟩
theorem TgOk.ow' {ρ' : List Dt} {sl : List Nat} (t : TgOk K f Δ Δ' ρ' σ σ' H sl) (no : ∀ i ∈ sl, ∀ c fr, Δ[i]? ≠ some (.own c fr)) {a : Addr} (h : Ow Δ σ a) : Ow Δ' σ' a := by
  obtain ⟨i, c, fr, h1, h2⟩ := h
  by_cases z : i ∈ sl
  · exact absurd h1 (no i z c fr)
  · obtain ⟨e1, e2⟩ := t.keep i z
    exact ⟨i, c, fr, e1 ▸ h1, e2 ▸ h2⟩
theorem TgOk.fm {ρ' : List Dt} {sl : List Nat} (t : TgOk K f Δ Δ' ρ' σ σ' H sl) {av fr : Bool} {a : Addr} (h : FM f Δ σ av fr a) : FM f Δ' σ' av fr a := ⟨fun e => ⟨fun z => (h.1 e).1 (t.ow z), (h.1 e).2⟩, h.2⟩
theorem TgOk.fm' {ρ' : List Dt} {sl : List Nat} (t : TgOk K f Δ Δ' ρ' σ σ' H sl) (no : ∀ i ∈ sl, ∀ c fr, Δ[i]? ≠ some (.own c fr)) {av fr : Bool} {a : Addr} (h : FM f Δ' σ' av fr a) : FM f Δ σ av fr a := ⟨fun e => ⟨fun z => (h.1 e).1 (t.ow' no z), (h.1 e).2⟩, h.2⟩
theorem TgOk.refl (r : R K f Δ ρ σ H) : TgOk K f Δ Δ ρ σ σ H [] := ⟨r, fun _ _ => ⟨rfl, rfl⟩, fun _ h => absurd h (by simp), rfl⟩
theorem TgOk.trans {Δ1 Δ2 : List Kd} {ρ1 ρ2 : List Dt} {σ1 σ2 : L2.St} {s1 s2 : List Nat} (t : TgOk K f Δ Δ1 ρ1 σ σ1 H s1) (u : TgOk K f Δ1 Δ2 ρ2 σ1 σ2 H s2) : TgOk K f Δ Δ2 ρ2 σ σ2 H (s1 ++ s2) := by
  refine ⟨u.r, fun i h => ?_, fun i h => ?_, u.len.trans t.len⟩
  · rw [List.mem_append, not_or] at h
    obtain ⟨a1, a2⟩ := t.keep i h.1
    obtain ⟨b1, b2⟩ := u.keep i h.2
    exact ⟨b1.trans a1, b2.trans a2⟩
  · by_cases z : i ∈ s2
    · exact u.im i z
    · rcases List.mem_append.mp h with h | h
      · obtain ⟨fr, e⟩ := t.im i h
        exact ⟨fr, (u.keep i z).1.trans e⟩
      · exact absurd h z
end

def GJ (K : PySem.W.Frag) (n : Nat) (g : TG) (sl : List Nat) (h : Dt → List Dt → O (List Dt)) (TK : Bool → List Kd → List Kd) : Prop := ∀ f Δ ρ σ H v d fr Q, Δ.length = n → R K f Δ ρ σ H → Rp K (FM f Δ σ true fr) H v d →
  (match h d ρ with | .ok ρ' => ∀ σ', TgOk K f Δ (TK fr Δ) ρ' σ σ' H sl → Q σ' H | _ => False) → g v σ H Q
def GJs (K : PySem.W.Frag) (n : Nat) (g : TGs) (sl : List Nat) (h : List Dt → List Dt → O (List Dt)) (TK : Bool → List Kd → List Kd) : Prop := ∀ f Δ ρ σ H vs ds fr Q, Δ.length = n → R K f Δ ρ σ H → RpA K (FM f Δ σ true fr) H vs ds →
  (match h ds ρ with | .ok ρ' => ∀ σ', TgOk K f Δ (TK fr Δ) ρ' σ σ' H sl → Q σ' H | _ => False) → g vs σ H Q
structure GD (X : Cx) (K : PySem.W.Frag) (n : Nat) (tg : Expr) (g : TG) (sl : List Nat) (h : Dt → List Dt → O (List Dt)) (TK : Bool → List Kd → List Kd) : Prop where
  pg : PG X tg g
  hK : X.K = K
  gj : GJ K n g sl h TK
structure GDs (X : Cx) (K : PySem.W.Frag) (n : Nat) (tg : List Expr) (g : TGs) (sl : List Nat) (h : List Dt → List Dt → O (List Dt)) (TK : Bool → List Kd → List Kd) : Prop where
  pg : PGs X tg g
  hK : X.K = K
  gj : GJs K n g sl h TK
def tgN (i : Nat) : Dt → List Dt → O (List Dt) := fun d ρ => .ok (ρ.set i d)
def tgT (h : List Dt → List Dt → O (List Dt)) : Dt → List Dt → O (List Dt) := fun d ρ => match d with
  | .tuple ds => h ds ρ
  | _ => .bad
def tgL (h : List Dt → List Dt → O (List Dt)) : Dt → List Dt → O (List Dt) := fun d ρ => match d with
  | .list ds => h ds ρ
  | _ => .bad
def tgNil : List Dt → List Dt → O (List Dt) := fun ds ρ => match ds with
  | [] => .ok ρ
  | _ => .bad
def tgCons (h : Dt → List Dt → O (List Dt)) (u : List Dt → List Dt → O (List Dt)) : List Dt → List Dt → O (List Dt) := fun ds ρ => match ds with
  | d :: r => (match h d ρ with
    | .ok ρ' => u r ρ'
    | _ => .bad)
  | [] => .bad
def TKN (i : Nat) : Bool → List Kd → List Kd := fun fr Δ => Δ.set i (.im fr)
def TK0 : Bool → List Kd → List Kd := fun _ Δ => Δ
def TKC (a b : Bool → List Kd → List Kd) : Bool → List Kd → List Kd := fun fr Δ => b fr (a fr Δ)

section
variable {K : PySem.W.Frag} {n : Nat}
theorem gj_name {i : Nat} (hi : i < n) : GJ K n (gName i) [i] (tgN i) (TKN i) := fun f Δ ρ σ H v d fr Q hl R x q => by
  have hi' : i < Δ.length := by rw [hl]; exact hi
  refine q (σ.set i (some v)) ⟨R.setIm hi' x, fun j h => ?_, fun j h => ?_, by unfold TKN; rw [List.length_set]⟩
  · have : i ≠ j := fun e => h (by rw [e]; exact List.mem_singleton.mpr rfl)
    unfold TKN
    exact ⟨List.getElem?_set_ne this, List.getElem?_set_ne this⟩
  · have : j = i := List.mem_singleton.mp h
    subst this
    unfold TKN
    exact ⟨fr, List.getElem?_set_self hi'⟩
theorem gj_nil : GJs K n L2.gNil [] tgNil TK0 := fun f Δ ρ σ H vs ds fr Q hl R x q => by
  cases x with
  | nil => exact ⟨rfl, q σ (.refl R)⟩
  | cons => exact q.elim
theorem gj_cons {g : TG} {gs : TGs} {s1 s2 : List Nat} {h : Dt → List Dt → O (List Dt)} {u : List Dt → List Dt → O (List Dt)} {T1 T2 : Bool → List Kd → List Kd} (a : GJ K n g s1 h T1) (b : GJs K n gs s2 u T2) :
    GJs K n (L2.gCons g gs) (s1 ++ s2) (tgCons h u) (TKC T1 T2) := fun f Δ ρ σ H vs ds fr Q hl R x q => by
  cases x with
  | nil => exact q.elim
  | cons x r =>
    refine ⟨_, _, rfl, ?_⟩
    unfold tgCons at q
    refine a f Δ ρ σ H _ _ fr _ hl R x ?_
    simp only at q
    revert q
    cases e : h _ ρ with
    | bad => exact fun q => q.elim
    | ex z => exact fun q => q.elim
    | ok ρ1 =>
      intro q σ1 t1
      refine b f _ ρ1 σ1 H _ _ fr _ (t1.len.trans hl) t1.r (r.weak fun _ y => t1.fm y) ?_
      simp only at q
      revert q
      cases e2 : u _ ρ1 with
      | bad => exact fun q => q.elim
      | ex z => exact fun q => q.elim
      | ok ρ2 => exact fun q σ2 t2 => q σ2 (t1.trans t2)
theorem gj_tup {m : Nat} {gs : TGs} {sl : List Nat} {u : List Dt → List Dt → O (List Dt)} {T : Bool → List Kd → List Kd} (b : GJs K n gs sl u T) (hm : ∀ ds ρ, ds.length ≠ m → ∀ z, u ds ρ ≠ .ok z) :
    GJ K n (L2.gTup K m gs) sl (tgT u) T := fun f Δ ρ σ H v d fr Q hl R x q => by
  cases d with
  | tuple ds =>
    obtain ⟨a, xs, rfl, hs, r⟩ := x.sqt
    have q : (match u ds ρ with | .ok ρ' => ∀ σ', TgOk K f Δ (T fr Δ) ρ' σ σ' H sl → Q σ' H | _ => False) := q
    refine ⟨a, xs, rfl, hs, ?_, b f Δ ρ σ H xs ds fr Q hl R r q⟩
    by_cases e : ds.length = m
    · rw [r.length]; exact e
    · cases eu : u ds ρ with
      | ok z => exact absurd eu (hm ds ρ e z)
      | bad => rw [eu] at q; exact q.elim
      | ex z => rw [eu] at q; exact q.elim
  | _ => exact q.elim
theorem tgNil_len : ∀ ds ρ, ds.length ≠ 0 → ∀ z, tgNil ds ρ ≠ .ok z
  | [], _, h, _ => absurd rfl h
  | _ :: _, _, _, _ => fun e => by cases e
theorem tgCons_len {m : Nat} {h : Dt → List Dt → O (List Dt)} {u : List Dt → List Dt → O (List Dt)} (hu : ∀ ds ρ, ds.length ≠ m → ∀ z, u ds ρ ≠ .ok z) : ∀ ds ρ, ds.length ≠ m + 1 → ∀ z, tgCons h u ds ρ ≠ .ok z
  | [], _, _, _ => fun e => by cases e
  | d :: r, ρ, hl, z => fun e => by
    unfold tgCons at e
    simp only at e
    cases eh : h d ρ with
    | bad => rw [eh] at e; cases e
    | ex y => rw [eh] at e; cases e
    | ok ρ' =>
      rw [eh] at e
      exact hu r ρ' (fun q => hl (by rw [List.length_cons, q])) z e
end
section
variable {X : Cx} {K : PySem.W.Frag} {n : Nat} {pos : Pos}
theorem g_name (i : Nat) {x : Str} (hN : X.N.Nodup) (hn : i < n := by decide) (hi : X.N[i]? = some x := by rfl) (hx : Loc X.env.scope x := by first | exact .inl rfl | exact .inr rfl) (hf : X.fn x = true ∨ X.env.scope.names.lookup x = some .local := by first | exact .inl rfl | exact .inr rfl) (hK : X.K = K := by rfl) :
    GD X K n (.Name x pos) (gName i) [i] (tgN i) (TKN i) := ⟨pg_name hN hi hx hf, hK, gj_name hn⟩
theorem g_nil (hK : X.K = K := by rfl) : GDs X K n [] L2.gNil [] tgNil TK0 := ⟨pgs_nil, hK, gj_nil⟩
theorem g_cons {e : Expr} {es : List Expr} {g : TG} {gs : TGs} {s1 s2 : List Nat} {h : Dt → List Dt → O (List Dt)} {u : List Dt → List Dt → O (List Dt)} {T1 T2 : Bool → List Kd → List Kd} (a : GD X K n e g s1 h T1) (b : GDs X K n es gs s2 u T2)
    (hs : (assignEach (e :: es) X.env).map (·.2) = assign e X.env :: (assignEach es X.env).map (·.2) := by rfl) : GDs X K n (e :: es) (L2.gCons g gs) (s1 ++ s2) (tgCons h u) (TKC T1 T2) := ⟨pgs_cons a.pg b.pg hs, a.hK, gj_cons a.gj b.gj⟩
end

/-! ### comprehensions -/
abbrev W0 : Wt := fun _ _ _ => False
def wipeK (Δ : List Kd) : List Nat → List Kd
  | [] => Δ
  | v :: vs => (wipeK Δ vs).set v .no
def noOwn (Δ : List Kd) (vs : List Nat) : Bool := vs.all fun i => match Δ[i]? with
  | some (.own _ _) => false
  | _ => true
theorem wipeK_len (Δ : List Kd) : ∀ vs, (wipeK Δ vs).length = Δ.length
  | [] => rfl
  | v :: vs => by unfold wipeK; rw [List.length_set, wipeK_len Δ vs]
theorem wipeK_out {Δ : List Kd} {i : Nat} : ∀ {vs : List Nat}, i ∉ vs → (wipeK Δ vs)[i]? = Δ[i]?
  | [], _ => rfl
  | v :: vs, h => by
    unfold wipeK
    rw [List.getElem?_set_ne (fun e => h (by rw [e]; exact List.mem_cons_self)), wipeK_out fun z => h (List.mem_cons_of_mem _ z)]
theorem wipeK_in {Δ : List Kd} {i : Nat} : ∀ {vs : List Nat}, i ∈ vs → ∀ k, (wipeK Δ vs)[i]? = some k → k = .no
  | [], h, _, _ => absurd h (by simp)
  | v :: vs, h, k, e => by
    unfold wipeK at e
    by_cases z : v = i
    · subst z
      by_cases hv : v < (wipeK Δ vs).length
      · rw [List.getElem?_set_self hv] at e
        exact (Option.some.inj e).symm
      · rw [List.getElem?_eq_none (by rw [List.length_set]; omega)] at e
        cases e
    · rw [List.getElem?_set_ne z] at e
      rcases List.mem_cons.mp h with q | q
      · exact absurd q.symm z
      · exact wipeK_in q k e
theorem wipe_out {σ : L2.St} {i : Nat} : ∀ {vs : List Nat}, i ∉ vs → (wipe σ vs)[i]? = σ[i]?
  | [], _ => rfl
  | v :: vs, h => by
    unfold wipe
    rw [List.getElem?_set_ne (fun e => h (by rw [e]; exact List.mem_cons_self)), wipe_out fun z => h (List.mem_cons_of_mem _ z)]
theorem wipe_in {σ : L2.St} {i : Nat} : ∀ {vs : List Nat}, i ∈ vs → i < σ.length → (wipe σ vs)[i]? = some none
  | [], h, _ => absurd h (by simp)
  | v :: vs, h, hl => by
    unfold wipe
    by_cases z : v = i
    · subst z
      rw [List.getElem?_set_self (by rw [wipe_length]; exact hl)]
    · rw [List.getElem?_set_ne z]
      rcases List.mem_cons.mp h with q | q
      · exact absurd q.symm z
      · exact wipe_in q hl
theorem wipe_eq {σ σ' : L2.St} {vs : List Nat} (hl : σ'.length = σ.length) (h : ∀ i, i ∉ vs → σ'[i]? = σ[i]?) : wipe σ' vs = wipe σ vs := by
  apply List.ext_getElem?
  intro i
  by_cases z : i ∈ vs
  · by_cases q : i < σ.length
    · rw [wipe_in z (by rw [hl]; exact q), wipe_in z q]
    · rw [List.getElem?_eq_none (by rw [wipe_length, hl]; omega), List.getElem?_eq_none (by rw [wipe_length]; omega)]
  · rw [wipe_out z, wipe_out z]
    exact h i z
theorem noOwn_get {Δ : List Kd} {vs : List Nat} (h : noOwn Δ vs = true) {i : Nat} (hi : i ∈ vs) {c : Ct} {fr : Bool} : Δ[i]? ≠ some (.own c fr) := fun e => by
  have q := List.all_eq_true.mp h i hi
  rw [e] at q
  cases q
section
variable {K : PySem.W.Frag} {f : Fm} {Δ : List Kd} {ρ : List Dt} {σ : L2.St} {H : Hp}
theorem ow_wipe {vs : List Nat} (h : noOwn Δ vs = true) {a : Addr} : Ow (wipeK Δ vs) (wipe σ vs) a ↔ Ow Δ σ a := by
  constructor
  · rintro ⟨i, c, fr, h1, h2⟩
    have z : i ∉ vs := fun z => by cases wipeK_in z _ h1
    exact ⟨i, c, fr, by rw [← wipeK_out z]; exact h1, by rw [← wipe_out z]; exact h2⟩
  · rintro ⟨i, c, fr, h1, h2⟩
    have z : i ∉ vs := fun z => noOwn_get h z h1
    exact ⟨i, c, fr, by rw [wipeK_out z]; exact h1, by rw [wipe_out z]; exact h2⟩
theorem fm_wipe {vs : List Nat} (h : noOwn Δ vs = true) {av fr : Bool} {a : Addr} : FM f (wipeK Δ vs) (wipe σ vs) av fr a ↔ FM f Δ σ av fr a := by
  unfold FM
  rw [ow_wipe h]
theorem R.wipe {vs : List Nat} (h : noOwn Δ vs = true) (r : R K f Δ ρ σ H) : R K f (wipeK Δ vs) ρ (L2.wipe σ vs) H := by
  refine ⟨r.ext, r.g0, by rw [wipe_length, wipeK_len]; exact r.lσ, by rw [wipeK_len]; exact r.lρ, ?_, fun a ha => ⟨(r.pin a ha).1, fun z => (r.pin a ha).2 ((ow_wipe h).mp z)⟩, fun g hg => (r.gh g hg).weak fun a y => (fm_wipe h).mpr y, fun i fr h' => ?_, fun i c fr h' => ?_, fun i c fr h' ha => ?_⟩
  · intro i j ci fi cj fj p h1 h2 h3 h4
    have z1 : i ∉ vs := fun z => by cases wipeK_in z _ h1
    have z2 : j ∉ vs := fun z => by cases wipeK_in z _ h2
    rw [wipeK_out z1] at h1
    rw [wipeK_out z2] at h2
    rw [wipe_out z1] at h3
    rw [wipe_out z2] at h4
    exact r.inj i j _ _ _ _ p h1 h2 h3 h4
  · have z1 : i ∉ vs := fun z => by cases wipeK_in z _ h'
    rw [wipeK_out z1] at h'
    obtain ⟨v, d, h1, h2, h3⟩ := r.im i fr h'
    exact ⟨v, d, by rw [wipe_out z1]; exact h1, h2, h3.weak fun a y => (fm_wipe h).mpr y⟩
  · have z1 : i ∉ vs := fun z => by cases wipeK_in z _ h'
    rw [wipeK_out z1] at h'
    obtain ⟨v, d, h1, h2, h3, h4⟩ := r.ow i c fr h'
    exact ⟨v, d, by rw [wipe_out z1]; exact h1, h2, h3, h4.map (fun o e => e) fun _ _ x => x.weak fun a y => (fm_wipe h).mpr y⟩
  · have z1 : i ∉ vs := fun z => by cases wipeK_in z _ h'
    rw [wipeK_out z1] at h'
    obtain ⟨p, h1, h2⟩ := r.ar i c fr h' ha
    exact ⟨p, h1, by rw [wipe_out z1]; exact h2⟩
/-- a new list at p and what is walked, kept in mind -/
def Fm.with (f : Fm) (P : List Addr) (g : List (List V × List Dt × Bool)) : Fm := { f with P := P ++ f.P, Γ := g ++ f.Γ }
theorem R.addG {vs : List V} {es : List Dt} {fr : Bool} (r : R K f Δ ρ σ H) (x : RpA K (FM f Δ σ true fr) H vs es) : R K { f with Γ := (vs, es, fr) :: f.Γ } Δ ρ σ H := by
  refine ⟨r.ext, r.g0, r.lσ, r.lρ, r.inj, r.pin, fun g hg => ?_, r.im, r.ow, r.ar⟩
  rcases List.mem_cons.mp hg with e | h
  · subst e; exact x
  · exact r.gh g h
theorem R.dropG {g : List V × List Dt × Bool} {Γ : List (List V × List Dt × Bool)} (r : R K { f with Γ := g :: Γ } Δ ρ σ H) : R K { f with Γ := Γ } Δ ρ σ H :=
  ⟨r.ext, r.g0, r.lσ, r.lρ, r.inj, r.pin, fun g hg => r.gh g (List.mem_cons_of_mem _ hg), r.im, r.ow, r.ar⟩
theorem R.addP {p : Addr} {o : HO} (r : R K f Δ ρ σ H) (np : H p = none) (m : Mutb o) : R K { f with P := p :: f.P } Δ ρ σ (upd H p o) := by
  obtain ⟨f1, f2, f3⟩ := r.fresh np
  have key : ∀ {fr : Bool} {v : V} {d : Dt}, Rp K (FM f Δ σ true fr) H v d → Rp K (FM { f with P := p :: f.P } Δ σ true fr) (upd H p o) v d := fun h =>
    h.mono (same_upd np) fun a fa na => ⟨fun _ => ⟨(fa.1 rfl).1, fun z => by
      rcases List.mem_cons.mp z with e | h
      · exact na (e ▸ np)
      · exact (fa.1 rfl).2 h⟩, fa.2⟩
  refine ⟨r.ext.trans (same_upd np), r.g0, r.lσ, r.lρ, r.inj, fun a ha => ?_, fun g hg => (r.gh g hg).map fun _ _ x => key x, fun i fr h => ?_, fun i c fr h => ?_, r.ar⟩
  · rcases List.mem_cons.mp ha with e | h
    · subst e
      exact ⟨⟨o, upd_same, m⟩, f1⟩
    · obtain ⟨⟨u, hu, mu⟩, no⟩ := r.pin a h
      exact ⟨⟨u, same_upd np _ _ hu, mu⟩, no⟩
  · obtain ⟨v, d, h1, h2, h3⟩ := r.im i fr h
    exact ⟨v, d, h1, h2, key h3⟩
  · obtain ⟨v, d, h1, h2, h3, h4⟩ := r.ow i c fr h
    exact ⟨v, d, h1, h2, h3, h4.map (fun o e => same_upd np _ _ e) fun _ _ x => key x⟩
end

def lcE (h : Dt → List Dt → O (List Dt)) (gt : List Dt → O Bool) (ge : Gd) (ρ : List Dt) : List Dt → O (List Dt)
  | [] => .ok []
  | d :: ds => bnd (h d ρ) fun ρ' => bnd (gt ρ') fun b => if b then bnd (ge ρ') fun e => bnd (lcE h gt ge ρ ds) fun es => .ok (e :: es) else lcE h gt ge ρ ds
def gLc (gi : List Dt → O (List Dt)) (h : Dt → List Dt → O (List Dt)) (gt : List Dt → O Bool) (ge : Gd) : Gd := fun ρ => bnd (gi ρ) fun ds => if ds.length ≤ 100000 then (match lcE h gt ge ρ ds with
  | .ok es => .ok (.list es)
  | _ => .bad) else .bad
def gYes : List Dt → O Bool := fun _ => .ok true
theorem bnd_inv {α β : Type} {x : O α} {k : α → O β} {z : β} (h : bnd x k = .ok z) : ∃ a, x = .ok a ∧ k a = .ok z := by
  cases x with
  | bad => cases h
  | ex e => cases h
  | ok a => exact ⟨a, rfl, h⟩

theorem se_lc {K : PySem.W.Frag} {W : Wt} {Δ : List Kd} {wi : TI} {g : TG} {tt : TT} {te : TE} {vs sl : List Nat} {b fr fr' : Bool} {gi : List Dt → O (List Dt)} {h : Dt → List Dt → O (List Dt)} {TK : Bool → List Kd → List Kd} {gt : List Dt → O Bool} {ge : Gd} {n : Nat}
    (hi : SI K W Δ wi b fr gi) (hg : GJ K n g sl h TK) (hn : Δ.length = n) (hsl : ∀ i ∈ sl, i ∈ vs) (no : noOwn Δ vs = true) (ht : ST K W0 (TK fr (wipeK Δ vs)) tt gt) (he : SE K W0 (TK fr (wipeK Δ vs)) te (.v true fr') ge) :
    SE K W Δ (tLc wi g tt te vs) (.new .l fr') (gLc gi h gt ge) := fun f ρ σ H Q r q => by
  refine hi f ρ σ H _ r ?_
  unfold gLc at q
  cases e1 : gi ρ with
  | bad => rw [e1] at q; exact q
  | ex z => rw [e1] at q; exact q
  | ok ds =>
    rw [e1, bnd_ok] at q
    by_cases hl : ds.length ≤ 100000
    · rw [if_pos hl] at q
      cases ea : lcE h gt ge ρ ds with
      | bad => rw [ea] at q; exact q.elim
      | ex z => rw [ea] at q; exact q.elim
      | ok all =>
        rw [ea] at q
        intro J H1 pf gv ge0 s1 hb hpf x1 sc D nD
        -- the frame within
        have r1 := (((r.mono s1).addP (o := .lst []) nD trivial).addG (fr := fr) (x1.mono (same_upd nD) fun a fa na => ⟨fun _ => ⟨(fa.1 rfl).1, fun z => by
          rcases List.mem_cons.mp z with e | h
          · exact na (e ▸ nD)
          · exact (fa.1 rfl).2 h⟩, fa.2⟩))
        generalize hf1 : ({ f with P := D :: f.P, Γ := (gv, ge0, fr) :: f.Γ } : Fm) = f1 at r1
        have r1 : R K f1 Δ ρ σ (upd H1 D (.lst [])) := by rw [← hf1]; rw [← hf1] at r1; exact r1
        have dP : D ∈ f1.P := by rw [← hf1]; exact List.mem_cons_self
        have gG : (gv, ge0, fr) ∈ f1.Γ := by rw [← hf1]; exact List.mem_cons_self
        have h0 : f1.H0 D = none := by rw [← hf1]; exact ((r.mono s1).fresh nD).2.2
        have fmf : ∀ {fr : Bool} {a : Addr}, FM f1 Δ σ true fr a → FM f Δ σ true fr a ∧ a ≠ D := fun {fr a} y => by
          rw [← hf1] at y
          exact ⟨⟨fun e => ⟨(y.1 e).1, fun z => (y.1 e).2 (List.mem_cons_of_mem _ z)⟩, y.2⟩, fun z => (y.1 rfl).2 (z ▸ List.mem_cons_self)⟩
        have noSl : ∀ i ∈ sl, ∀ c fr, (wipeK Δ vs)[i]? ≠ some (.own c fr) := fun i hi c fr e => by cases wipeK_in (hsl i hi) _ e
        refine ⟨fun i m H' => m = ds.length - i ∧ i ≤ ds.length ∧ ∃ acc es rest, H' D = some (.lst acc) ∧ R K f1 Δ ρ σ H' ∧ RpA K (FM f1 Δ σ true fr') H' acc es ∧ acc.length ≤ i ∧ lcE h gt ge ρ (ds.drop i) = .ok rest ∧ all = es ++ rest ∧ Same H H' ∧ (∀ q, pf = some q → H' q.1 = some q.2),
          ⟨ds.length, by simp, Nat.zero_le _, [], [], all, upd_same, r1, .nil, Nat.le_refl _, ea, rfl, s1.trans (same_upd nD), fun q eq => same_upd nD _ _ (hpf q eq)⟩, ?_⟩
        rintro i m H2 ⟨rfl, hi2, acc, es, rest, hD, r2, x2, la, er, eall, sHH, hpf2⟩
        have stand : (∀ q, pf = some q → H2 q.1 = some q.2) ∧ ∃ F, RpA K F H2 gv ge0 := ⟨hpf2, _, r2.gh _ gG⟩
        by_cases hlt : i < ds.length
        · refine .inr ⟨sc.goes i H2 hlt stand, fun H' => i + 1 ≤ ds.length ∧ ∃ acc es rest, H' D = some (.lst acc) ∧ R K f1 Δ ρ σ H' ∧ RpA K (FM f1 Δ σ true fr') H' acc es ∧ acc.length ≤ i + 1 ∧ lcE h gt ge ρ (ds.drop (i + 1)) = .ok rest ∧ all = es ++ rest ∧ Same H H' ∧ (∀ q, pf = some q → H' q.1 = some q.2),
            fun H' w => ⟨ds.length - (i + 1), by omega, rfl, w⟩, fun x H3 hy => ?_⟩
          obtain ⟨s3, hx⟩ := sc.yields i H2 x H3 hlt stand hy
          obtain ⟨d, hd, x3⟩ := hx _ (r2.gh _ gG)
          have edrop : ds.drop i = d :: ds.drop (i + 1) := by
            have hd' := (List.getElem?_eq_some_iff.mp hd).2
            rw [List.drop_eq_getElem_cons hlt, hd']
          rw [edrop] at er
          unfold lcE at er
          obtain ⟨ρ', eh, er⟩ := bnd_inv er
          obtain ⟨c, ec, er⟩ := bnd_inv er
          have r3 := r2.mono s3
          refine hg f1 (wipeK Δ vs) ρ (wipe σ vs) H3 x d fr _ (by rw [wipeK_len]; exact hn) (r3.wipe no) (x3.weak fun a y => (fm_wipe no).mpr y) ?_
          rw [eh]
          intro σ4 t4
          refine ⟨?_, ?_⟩
          · rw [wipe_eq (σ' := σ4) (σ := wipe σ vs) (by rw [t4.r.lσ, t4.len, wipeK_len, wipe_length, r.lσ]) fun i hi => (t4.keep i fun z => hi (hsl i z)).2]
            exact wipe_eq (wipe_length σ vs) fun i hi => wipe_out hi
          · refine ht f1 ρ' σ4 H3 _ t4.r ?_
            rw [ec]
            intro H4 s4
            cases c with
            | false =>
              show (if false = true then _ else _)
              rw [if_neg Bool.false_ne_true]
              have er : lcE h gt ge ρ (ds.drop (i + 1)) = .ok rest := er
              have s24 := s3.trans s4
              exact ⟨hlt, acc, es, rest, s24 _ _ hD, r2.mono s24, x2.same s24, by omega, er, eall, sHH.trans s24, fun q eq => s24 _ _ (hpf2 q eq)⟩
            | true =>
              show (if true = true then _ else _)
              rw [if_pos rfl]
              have er : bnd (ge ρ') (fun e => bnd (lcE h gt ge ρ (ds.drop (i + 1))) fun es => .ok (e :: es)) = .ok rest := er
              obtain ⟨e, ee, er⟩ := bnd_inv er
              obtain ⟨es', ees, er⟩ := bnd_inv er
              cases er
              refine he f1 ρ' σ4 H4 _ (t4.r.mono s4) ?_
              rw [ee]
              intro y H5 s5 x5
              have s25 := (s3.trans s4).trans s5
              have hD5 := s25 _ _ hD
              refine ⟨acc, hD5, Nat.lt_of_lt_of_le (show acc.length < 100001 by omega) (by decide), hlt, acc ++ [y], es ++ [e], es', upd_same, (r2.mono s25).updAt hD5 trivial trivial h0 (fun z => ((r2.pin D dP).2 z)) dP, ?_, by rw [List.length_append, List.length_singleton]; omega, ees, by rw [eall]; simp, ?_, fun q eq => ?_⟩
              · refine ((x2.same s25).updM hD5 trivial fun a y z => (y.1 rfl).2 (z ▸ dP)).append (.cons ?_ .nil)
                refine Rp.updM hD5 trivial (fun a y z => (y.1 rfl).2 (z ▸ dP)) (x5.weak fun a y => (fm_wipe no).mp (t4.fm' noSl y))
              · intro a o ha
                have na : a ≠ D := fun z => by
                  have z1 := s1 _ _ ha
                  rw [z, nD] at z1
                  cases z1
                rw [upd_ne na]
                exact s25 _ _ (sHH _ _ ha)
              · have nq : q.1 ≠ D := fun z => by
                  have z1 := hpf q eq
                  rw [z, nD] at z1
                  cases z1
                rw [upd_ne nq]
                exact s25 _ _ (hpf2 q eq)
        · have ei : i = ds.length := by omega
          subst ei
          refine .inl ⟨sc.stops H2 stand, ?_⟩
          rw [List.drop_length] at er
          cases er
          rw [List.append_nil] at eall
          subst eall
          refine q D H2 (s1.free nD) sHH ⟨acc, _, rfl, hD, x2.weak fun a y => fmf y⟩
    · rw [if_neg hl] at q
      exact q.elim
end Sim
end T_SimE

section T_SimF
set_option Elab.async false
set_option linter.all false
set_option maxRecDepth 100000
/-! SimF: statements, calls, defs. -/
namespace Sim
open PySem PySem.Spec L2
open PyProof.Rows hiding St

inductive Fl where
  | nx (ρ : List Dt) | rt (d : Dt) | bk (ρ : List Dt) | ct (ρ : List Dt)
abbrev Gs := List Dt → O Fl

/-- how a def tells: a value, a new list; the same of a def that changes its argument -/
inductive Lk where
  | n | l | m | ml
def sclA : List Dt → Bool
  | [] => true
  | d :: ds => scl d && sclA ds
def sclV : List (Dt × Dt) → Bool
  | [] => true
  | d :: ds => scl d.2 && sclV ds
/-- what stands at an argument's place: scalars -/
def ArgAt (K : PySem.W.Frag) (H : Hp) (a : Addr) (d : Dt) : Prop := match d with
  | .list es => sclA es = true ∧ ∃ ws, H a = some (.lst ws) ∧ RpA K (fun _ => False) H ws es
  | .dict es => sclV es = true ∧ ∃ kvs, H a = some (.dK kvs) ∧ KvA K (fun _ => False) H kvs es
  | _ => False
def PoS (K : PySem.W.Frag) (W : Wt) (L : Lk) (f : Fm) (Δn Δb Δc : List Kd) (o : O Fl) (E : Ends) : Prop := match o with
  | .bad => False
  | .ex e => ∀ σ' H', Same f.H0 H' → W e σ' H'
  | .ok (.nx ρ) => ∀ σ' H', R K f Δn ρ σ' H' → E.nx σ' H'
  | .ok (.rt d) => (match L with
    | .l => ∀ p H', f.H0 p = none → Same f.H0 H' → OwC K .l (fun a => f.G a ∧ a ≠ p) H' p d → E.rt (.ref p) H'
    | .n => ∀ v H', Same f.H0 H' → Rp K f.G H' v d → E.rt v H'
    | .m => (match f.A, d with
      | some a, .tuple [r, e] => ∀ v H', Same f.H0 H' → ArgAt K H' a e → Rp K (fun b => f.G b ∧ b ≠ a) H' v r → E.rt v H'
      | _, _ => False)
    | .ml => (match f.A, d with
      | some a, .tuple [r, e] => ∀ p H', p ≠ a → f.H0 p = none → Same f.H0 H' → ArgAt K H' a e → OwC K .l (fun b => (f.G b ∧ b ≠ a) ∧ b ≠ p) H' p r → E.rt (.ref p) H'
      | _, _ => False))
  | .ok (.bk ρ) => ∀ σ' H', R K f Δb ρ σ' H' → E.bk σ' H'
  | .ok (.ct ρ) => ∀ σ' H', R K f Δc ρ σ' H' → E.ct σ' H'
def SS (K : PySem.W.Frag) (W : Wt) (L : Lk) (Δ Δn Δb Δc : List Kd) (ts : TS) (g : Gs) : Prop := ∀ f ρ σ H E, R K f Δ ρ σ H → PoS K W L f Δn Δb Δc (g ρ) E → ts E σ H

/-! ### closures -/
def gNext : Gs := fun ρ => .ok (.nx ρ)
def gSeqS (a b : Gs) : Gs := fun ρ => match a ρ with
  | .ok (.nx ρ') => b ρ'
  | o => o
def gRet (g : Gd) : Gs := fun ρ => bnd (g ρ) fun d => .ok (.rt d)
def gRetN : Gs := fun _ => .ok (.rt .none)
def gAsg (g : Gd) (h : Dt → List Dt → O (List Dt)) : Gs := fun ρ => bnd (g ρ) fun d => match h d ρ with
  | .ok ρ' => .ok (.nx ρ')
  | _ => .bad
def gSet (i : Nat) (g : Gd) : Gs := fun ρ => bnd (g ρ) fun d => .ok (.nx (ρ.set i d))
def gPar (i j : Nat) (g : List Dt → O (List Dt)) : Gs := fun ρ => bnd (g ρ) fun ds => match ds with
  | [a, b] => .ok (.nx ((ρ.set i a).set j b))
  | _ => .bad
def gAug (h : Int → Int → Int) (i : Nat) (g : Gd) : Gs := fun ρ => match ρ[i]? with
  | some (.int a) => bnd (g ρ) fun d => (match d with
    | .int b => .ok (.nx (ρ.set i (.int (h a b))))
    | _ => .bad)
  | _ => .bad
def gDrop (g : Gd) : Gs := fun ρ => bnd (g ρ) fun _ => .ok (.nx ρ)
def gApp (i : Nat) (g : Gd) : Gs := fun ρ => match ρ[i]? with
  | some (.list ds) => bnd (g ρ) fun d => if ds.length < 100000 then .ok (.nx (ρ.set i (.list (ds ++ [d])))) else .bad
  | _ => .bad
def gExt (i : Nat) (g : Gd) : Gs := fun ρ => match ρ[i]? with
  | some (.list ds) => bnd (g ρ) fun d => (match d with
    | .list es => if ds.length + es.length ≤ 100000 then .ok (.nx (ρ.set i (.list (ds ++ es)))) else .bad
    | _ => .bad)
  | _ => .bad
def gSetI (i : Nat) (ge gi : Gd) : Gs := fun ρ => bnd (ge ρ) fun d => match ρ[i]? with
  | some (.list ds) => bnd (gi ρ) fun k => (match k with
    | .int k => (match ixN ds.length k with
      | some j => .ok (.nx (ρ.set i (.list (ds.set j d))))
      | none => .bad)
    | _ => .bad)
  | _ => .bad
def gIfS (t : List Dt → O Bool) (a b : Gs) : Gs := fun ρ => bnd (t ρ) fun c => if c then a ρ else b ρ
def gWhile (t : List Dt → O Bool) (b : Gs) : Nat → Gs
  | 0 => fun _ => .bad
  | n + 1 => fun ρ => bnd (t ρ) fun c => if c then (bnd (b ρ) fun fl => match fl with
    | .nx ρ' => gWhile t b n ρ'
    | .ct ρ' => gWhile t b n ρ'
    | .bk ρ' => .ok (.nx ρ')
    | .rt d => .ok (.rt d)) else .ok (.nx ρ)
def forE (h : Dt → List Dt → O (List Dt)) (b : Gs) : List Dt → Gs
  | [] => fun ρ => .ok (.nx ρ)
  | d :: ds => fun ρ => match h d ρ with
    | .ok ρ1 => bnd (b ρ1) fun fl => (match fl with
      | .nx ρ' => forE h b ds ρ'
      | .ct ρ' => forE h b ds ρ'
      | .bk ρ' => .ok (.nx ρ')
      | .rt d => .ok (.rt d))
    | _ => .bad
def gFor (gi : List Dt → O (List Dt)) (h : Dt → List Dt → O (List Dt)) (b : Gs) : Gs := fun ρ => bnd (gi ρ) fun ds => forE h b ds ρ

section
variable {K : PySem.W.Frag} {W : Wt} {Δ Δ1 Δ2 Δn Δb Δc : List Kd} {te ti : TE} {tt : TT} {t u : TS} {ta : TA} {g ge gi : Gd} {gt : List Dt → O Bool} {gA : List Dt → O (List Dt)} {ga gb : Gs} {fr fr' av av' : Bool} {L : Lk} {i j : Nat}

theorem SS.pre (h : SS K W L Δ1 Δn Δb Δc t ga) (l : leA Δ Δ1 = true) : SS K W L Δ Δn Δb Δc t ga := fun f ρ σ H E r q => h f ρ σ H E (r.weak l) q
theorem SS.post {Δn' Δb' Δc' : List Kd} (h : SS K W L Δ Δn Δb Δc t ga) (ln : leA Δn Δn' = true) (lb : leA Δb Δb' = true) (lc : leA Δc Δc' = true) : SS K W L Δ Δn' Δb' Δc' t ga := fun f ρ σ H E r q => h f ρ σ H E r <| by
  cases e : ga ρ with
  | bad => rw [e] at q; exact q
  | ex z => rw [e] at q; exact q
  | ok fl =>
    rw [e] at q
    cases fl with
    | nx ρ' => exact fun σ' H' r => q σ' H' (r.weak ln)
    | rt d => exact q
    | bk ρ' => exact fun σ' H' r => q σ' H' (r.weak lb)
    | ct ρ' => exact fun σ' H' r => q σ' H' (r.weak lc)
theorem s_next : SS K W L Δ Δ Δb Δc tNext gNext := fun f ρ σ H E r q => q σ H r
theorem s_seq (h1 : SS K W L Δ Δ1 Δb Δc t ga) (h2 : SS K W L Δ1 Δn Δb Δc u gb) : SS K W L Δ Δn Δb Δc (tSeq t u) (gSeqS ga gb) := fun f ρ σ H E r q => h1 f ρ σ H _ r <| by
  unfold gSeqS at q
  cases e : ga ρ with
  | bad => rw [e] at q; exact q
  | ex z => rw [e] at q; exact q
  | ok fl =>
    rw [e] at q
    cases fl with
    | nx ρ' => exact fun σ' H' r' => h2 f ρ' σ' H' E r' q
    | rt d => exact q
    | bk ρ' => exact q
    | ct ρ' => exact q
theorem s_ret (h : SE K W Δ te (.v av true) g) : SS K W .n Δ Δn Δb Δc (tRet te) (gRet g) := fun f ρ σ H E r q => h f ρ σ H _ r <| by
  unfold gRet at q
  cases e : g ρ with
  | bad => rw [e] at q; exact q
  | ex z => rw [e] at q; exact fun H' s => q σ H' (r.ext.trans s)
  | ok d =>
    rw [e] at q
    exact fun v H' s x => q v H' (r.ext.trans s) (x.weak fun a fa => fa.2 rfl)
theorem s_retL (h : SE K W Δ te (.new .l true) g) : SS K W .l Δ Δn Δb Δc (tRet te) (gRet g) := fun f ρ σ H E r q => h f ρ σ H _ r <| by
  unfold gRet at q
  cases e : g ρ with
  | bad => rw [e] at q; exact q
  | ex z => rw [e] at q; exact fun H' s => q σ H' (r.ext.trans s)
  | ok d =>
    rw [e] at q
    exact fun p H' np s x => q p H' (r.fresh np).2.2 (r.ext.trans s) (x.map (fun _ e => e) fun _ _ y => y.weak fun a fa => ⟨fa.1.2 rfl, fa.2⟩)
/-- return of an owned name -/
theorem s_retO (hk : Δ[i]? = some (.own .l true)) : SS K W .l Δ Δn Δb Δc (tRet (tVar i)) (gRet (gVar i)) := fun f ρ σ H E r q => by
  obtain ⟨p, d, h1, h2, h3, h4⟩ := r.ow i .l true hk
  unfold gRet gVar at q
  rw [h2, bnd_ok] at q
  exact ⟨_, h1, q p H h3 r.ext (h4.map (fun _ e => e) fun _ _ y => y.weak fun a fa => ⟨fa.2 rfl, fun z => (fa.1 rfl).1 (z ▸ ⟨i, .l, true, hk, h1⟩)⟩)⟩
def gPurV (i : Nat) : Gd := gPurN (gVar i)
theorem s_retOp (hk : Δ[i]? = some (.own .l fr)) : SS K W .l Δ Δn Δb Δc (tRet (tVar i)) (gRet (gPurV i)) := fun f ρ σ H E r q => by
  obtain ⟨p, d, h1, h2, h3, vs, ds, ed, h4, h5⟩ := r.ow i .l fr hk
  subst ed
  unfold gRet gPurV gPurN gVar at q
  rw [h2] at q
  have q : PoS K W .l f Δn Δb Δc (bnd (if pureIn (.list ds) = true then O.ok (PyData.list ds) else O.bad) fun d => O.ok (Fl.rt d)) E := q
  by_cases pp : pureIn (.list ds) = true
  · rw [if_pos pp] at q
    exact ⟨_, h1, q p H h3 r.ext ⟨vs, ds, rfl, h4, h5.pure pp⟩⟩
  · rw [if_neg pp] at q
    exact q.elim
theorem s_retN : SS K W .n Δ Δn Δb Δc tRetN gRetN := fun f ρ σ H E r q => q .non H r.ext .non
theorem s_drop {k : Rk} (h : SE K W Δ te k g) : SS K W L Δ Δ Δb Δc (tDrop te) (gDrop g) := fun f ρ σ H E r q => h f ρ σ H _ r <| by
  unfold gDrop at q
  cases e : g ρ with
  | bad => rw [e] at q; exact q
  | ex z => rw [e] at q; exact fun H' s => q σ H' (r.ext.trans s)
  | ok d =>
    rw [e] at q
    cases k with
    | v av fr => exact fun v H' s x => q σ H' (r.mono s)
    | o fr => exact fun p H' vs ds e s _ _ _ => q σ H' (r.mono s)
    | new c fr => exact fun p H' np s x => q σ H' (r.mono s)
theorem s_set (hi : i < Δ.length) (h : SE K W Δ te (.v true fr) g) : SS K W L Δ (Δ.set i (.im fr)) Δb Δc (tAsg te (gName i)) (gSet i g) := fun f ρ σ H E r q => h f ρ σ H _ r <| by
  unfold gSet at q
  cases e : g ρ with
  | bad => rw [e] at q; exact q
  | ex z => rw [e] at q; exact fun H' s => q σ H' (r.ext.trans s)
  | ok d =>
    rw [e] at q
    exact fun v H' s x => q _ H' ((r.mono s).setIm hi x)
theorem s_setO {c : Ct} (hi : i < Δ.length) (h : SE K W Δ te (.new c fr) g) (hc : isArg c = false := by rfl) : SS K W L Δ (Δ.set i (.own c fr)) Δb Δc (tAsg te (gName i)) (gSet i g) := fun f ρ σ H E r q => h f ρ σ H _ r <| by
  unfold gSet at q
  cases e : g ρ with
  | bad => rw [e] at q; exact q
  | ex z => rw [e] at q; exact fun H' s => q σ H' (r.ext.trans s)
  | ok d =>
    rw [e] at q
    exact fun p H' np s x => q _ H' (r.setOwn hi np s x hc)
theorem s_asg {gg : TG} {sl : List Nat} {n : Nat} {hh : Dt → List Dt → O (List Dt)} {TK : Bool → List Kd → List Kd} (hn : Δ.length = n) (h : SE K W Δ te (.v true fr) g) (hg : GJ K n gg sl hh TK) : SS K W L Δ (TK fr Δ) Δb Δc (tAsg te gg) (gAsg g hh) := fun f ρ σ H E r q => h f ρ σ H _ r <| by
  unfold gAsg at q
  cases e : g ρ with
  | bad => rw [e] at q; exact q
  | ex z => rw [e] at q; exact fun H' s => q σ H' (r.ext.trans s)
  | ok d =>
    rw [e, bnd_ok] at q
    intro v H' s x
    refine hg f Δ ρ σ H' v d fr _ hn (r.mono s) x ?_
    cases e2 : hh d ρ with
    | bad => rw [e2] at q; exact q.elim
    | ex z => rw [e2] at q; exact q.elim
    | ok ρ' =>
      rw [e2] at q
      exact fun σ' t => q σ' H' t.r
theorem s_par (hi : i < Δ.length) (hj : j < Δ.length) (h : SA K W Δ ta true fr gA) : SS K W L Δ ((Δ.set i (.im fr)).set j (.im fr)) Δb Δc (tPar i j ta) (gPar i j gA) := fun f ρ σ H E r q => h f ρ σ H _ r <| by
  unfold gPar at q
  cases e : gA ρ with
  | bad => rw [e] at q; exact q
  | ex z => rw [e] at q; exact fun H' s => q σ H' (r.ext.trans s)
  | ok ds =>
    rw [e, bnd_ok] at q
    intro vs H' s x
    match ds, x, q with
    | [], _, q => exact q.elim
    | [_], _, q => exact q.elim
    | [a, b], .cons x1 (.cons x2 .nil), q =>
      refine ⟨_, _, rfl, q _ H' ?_⟩
      have r1 := (r.mono s).setIm (fr := fr) hi x1
      refine r1.setIm (by rw [List.length_set]; exact hj) (x2.weak fun a fa => ⟨fun _ => ⟨fun z => (fa.1 rfl).1 ?_, (fa.1 rfl).2⟩, fa.2⟩)
      obtain ⟨k, c, frk, h1, h2⟩ := z
      by_cases z : i = k
      · subst z
        rw [List.getElem?_set_self hi] at h1
        cases h1
      · rw [List.getElem?_set_ne z] at h1 h2
        exact ⟨k, c, frk, h1, h2⟩
    | _ :: _ :: _ :: _, _, q => exact q.elim
theorem s_aug {hf : Int → Int → Int} (hk : Δ[i]? = some (.im fr)) (h : SE K W Δ te (.v av' fr') g) : SS K W L Δ (Δ.set i (.im true)) Δb Δc (tAug i te (ipI hf)) (gAug hf i g) := fun f ρ σ H E r q => by
  obtain ⟨v, d, h1, h2, h3⟩ := r.im i fr hk
  have hi : i < Δ.length := (List.getElem?_eq_some_iff.mp hk).1
  unfold gAug at q
  rw [h2] at q
  cases h3 with
  | int a =>
    refine ⟨_, h1, h f ρ σ H _ r ?_⟩
    simp only at q
    cases e : g ρ with
    | bad => rw [e] at q; exact q
    | ex z => rw [e] at q; exact fun H' s => q σ H' (r.ext.trans s)
    | ok d =>
      rw [e, bnd_ok] at q
      intro v H' s x
      cases d with
      | int b =>
        rw [rpInt x]
        exact ⟨a, b, rfl, rfl, q _ H' ((r.mono s).setIm hi (.int _))⟩
      | _ => exact q.elim
  | non => exact q.elim
  | bl => exact q.elim
  | str => exact q.elim
  | lst => exact q.elim
  | fz => exact q.elim
  | tup => exact q.elim
  | dic => exact q.elim
theorem s_app (hk : Δ[i]? = some (.own .l fr)) (h : SE K W Δ te (.v true fr') g) : SS K W L Δ (Δ.set i (.own .l (fr && fr'))) Δb Δc (tDrop (tBM K "list" rAppend (tVar i) (tCons te tNil))) (gApp i g) := fun f ρ σ H E r q => by
  obtain ⟨p, d, h1, h2, h3, vs, ds, ed, h4, h5⟩ := r.ow i .l fr hk
  subst ed
  unfold gApp at q
  rw [h2] at q
  simp only at q
  refine ⟨_, h1, .inl ⟨rfl, _, .inl (.inl h4)⟩, h f ρ σ H _ r ?_⟩
  cases e : g ρ with
  | bad => rw [e] at q; exact q
  | ex z => rw [e] at q; exact fun H' s => q σ H' (r.ext.trans s)
  | ok d =>
    rw [e, bnd_ok] at q
    intro v H1 s x
    by_cases hl : ds.length < 100000
    · rw [if_pos hl] at q
      have hp := s _ _ h4
      have hl2 : vs.length < sizeLine := by rw [h5.length]; exact Nat.lt_of_lt_of_le hl (by decide)
      refine ⟨p, vs, v, rfl, rfl, hp, hl2, q σ _ ?_⟩
      refine (r.mono s).updOwn hk h1 (c' := .l) (show Mutb (.lst _) from trivial) ⟨_, _, rfl, upd_same, ?_⟩
      have nf : ∀ {fr : Bool} (a : Addr), FM f Δ σ true fr a → a ≠ p := fun a fa z => (fa.1 rfl).1 (z ▸ ⟨i, .l, _, hk, h1⟩)
      exact (((h5.same s).updM hp trivial fun a fa => nf a fa).weak fun a y => y.weak id fun h => (Bool.and_eq_true_iff.mp h).1).append
        (.cons ((Rp.updM hp trivial (fun a fa => nf a fa) x).weak fun a y => y.weak id fun h => (Bool.and_eq_true_iff.mp h).2) .nil)
    · rw [if_neg hl] at q
      exact q.elim
theorem s_ext (hk : Δ[i]? = some (.own .l fr)) (h : SE K W Δ te (.new .l fr') g) : SS K W L Δ (Δ.set i (.own .l (fr && fr'))) Δb Δc (tDrop (tBM K "list" rExtend (tVar i) (tCons te tNil))) (gExt i g) := fun f ρ σ H E r q => by
  obtain ⟨p, d, h1, h2, h3, vs, ds, ed, h4, h5⟩ := r.ow i .l fr hk
  subst ed
  unfold gExt at q
  rw [h2] at q
  simp only at q
  refine ⟨_, h1, .inl ⟨rfl, _, .inl (.inl h4)⟩, h f ρ σ H _ r ?_⟩
  cases e : g ρ with
  | bad => rw [e] at q; exact q
  | ex z => rw [e] at q; exact fun H' s => q σ H' (r.ext.trans s)
  | ok d =>
    rw [e, bnd_ok] at q
    intro b H1 nb s x
    obtain ⟨ws, es, ed, hb, x⟩ := x
    subst ed
    simp only at q
    by_cases hl : ds.length + es.length ≤ 100000
    · rw [if_pos hl] at q
      have hp := s _ _ h4
      have hl2 : vs.length + ws.length ≤ sizeLine := by rw [h5.length, x.length]; exact sz_le hl
      refine ⟨p, b, vs, ws, rfl, rfl, hp, hb, hl2, q σ _ ?_⟩
      refine (r.mono s).updOwn hk h1 (c' := .l) (show Mutb (.lst _) from trivial) ⟨_, _, rfl, upd_same, ?_⟩
      have nf : ∀ {fr : Bool} (a : Addr), FM f Δ σ true fr a → a ≠ p := fun a fa z => (fa.1 rfl).1 (z ▸ ⟨i, .l, _, hk, h1⟩)
      exact (((h5.same s).updM hp trivial fun a fa => nf a fa).weak fun a y => y.weak id fun h => (Bool.and_eq_true_iff.mp h).1).append
        ((x.weak fun a y => y.1).updM hp trivial (fun a fa => nf a fa) |>.weak fun a y => y.weak id fun h => (Bool.and_eq_true_iff.mp h).2)
    · rw [if_neg hl] at q
      exact q.elim
theorem s_setI (hk : Δ[i]? = some (.own .l fr)) (h : SE K W Δ te (.v true fr') ge) (h2 : SE K W Δ ti (.v av av') gi) : SS K W L Δ (Δ.set i (.own .l (fr && fr'))) Δb Δc (tAsg te (gSub (tVar i) ti rSetL)) (gSetI i ge gi) := fun f ρ σ H E r q => h f ρ σ H _ r <| by
  obtain ⟨p, d, g1, g2, g3, vs, ds, ed, g4, g5⟩ := r.ow i .l fr hk
  subst ed
  unfold gSetI at q
  cases e : ge ρ with
  | bad => rw [e] at q; exact q
  | ex z => rw [e] at q; exact fun H' s => q σ H' (r.ext.trans s)
  | ok d =>
    rw [e, bnd_ok, g2] at q
    simp only at q
    intro v H1 s x
    refine ⟨_, g1, h2 f ρ σ H1 _ (r.mono s) ?_⟩
    cases e2 : gi ρ with
    | bad => rw [e2] at q; exact q
    | ex z => rw [e2] at q; exact fun H' s2 => q σ H' ((r.ext.trans s).trans s2)
    | ok k =>
      rw [e2, bnd_ok] at q
      intro kv H2 s2 xk
      cases k with
      | int k =>
        simp only at q
        cases ej : ixN ds.length k with
        | none => rw [ej] at q; exact q.elim
        | some j =>
          rw [ej] at q
          rw [rpInt xk]
          have s12 := s.trans s2
          have hp := s12 _ _ g4
          refine ⟨p, vs, k, j, rfl, rfl, hp, by rw [g5.length]; exact ej, q σ _ ?_⟩
          refine (r.mono s12).updOwn hk g1 (c' := .l) (show Mutb (.lst _) from trivial) ⟨_, _, rfl, upd_same, ?_⟩
          have nf : ∀ {fr : Bool} (a : Addr), FM f Δ σ true fr a → a ≠ p := fun a fa z => (fa.1 rfl).1 (z ▸ ⟨i, .l, _, hk, g1⟩)
          exact RpA.set ((Rp.updM hp trivial (fun a fa => nf a fa) (x.same s2)).weak fun a y => y.weak id fun h => (Bool.and_eq_true_iff.mp h).2) j
            (((g5.same s12).updM hp trivial fun a fa => nf a fa).weak fun a y => y.weak id fun h => (Bool.and_eq_true_iff.mp h).1)
      | _ => exact q.elim
theorem s_if (h : ST K W Δ tt gt) (h1 : SS K W L Δ Δn Δb Δc t ga) (h2 : SS K W L Δ Δn Δb Δc u gb) : SS K W L Δ Δn Δb Δc (tIfS tt t u) (gIfS gt ga gb) := fun f ρ σ H E r q => h f ρ σ H _ r <| by
  unfold gIfS at q
  cases e : gt ρ with
  | bad => rw [e] at q; exact q
  | ex z => rw [e] at q; exact fun H' s => q σ H' (r.ext.trans s)
  | ok c =>
    rw [e, bnd_ok] at q
    intro H1 s
    cases c with
    | true => exact h1 f ρ σ H1 E (r.mono s) q
    | false => exact h2 f ρ σ H1 E (r.mono s) q
theorem s_brk : SS K W L Δ Δn Δ Δc tBreak (fun ρ => .ok (.bk ρ)) := fun f ρ σ H E r q => q σ H r
theorem s_cont : SS K W L Δ Δn Δb Δ tCont (fun ρ => .ok (.ct ρ)) := fun f ρ σ H E r q => q σ H r
theorem s_while (n : Nat) (h : ST K W Δ tt gt) (hb : SS K W L Δ Δ Δ Δ t gb) : SS K W L Δ Δ Δb Δc (tWhile tt t) (gWhile gt gb n) := fun f ρ σ H E r q => by
  refine ⟨fun m σ H => ∃ ρ, R K f Δ ρ σ H ∧ PoS K W L f Δ Δb Δc (gWhile gt gb m ρ) E, ⟨n, ρ, r, q⟩, ?_⟩
  rintro m σ1 H1 ⟨ρ1, r1, q1⟩
  cases m with
  | zero => exact q1.elim
  | succ m =>
    refine h f ρ1 σ1 H1 _ r1 ?_
    unfold gWhile at q1
    cases e : gt ρ1 with
    | bad => rw [e] at q1; exact q1
    | ex z => rw [e] at q1; exact fun H' s => q1 σ1 H' (r1.ext.trans s)
    | ok c =>
      rw [e, bnd_ok] at q1
      intro H2 s2
      cases c with
      | false => exact q1 σ1 H2 (r1.mono s2)
      | true =>
        show (if true = true then _ else _)
        rw [if_pos rfl]
        refine ⟨fun σ' H' => ∃ ρ', R K f Δ ρ' σ' H' ∧ PoS K W L f Δ Δb Δc (gWhile gt gb m ρ') E, fun σ' H' w => ⟨m, Nat.lt_succ_self m, w⟩, hb f ρ1 σ1 H2 _ (r1.mono s2) ?_⟩
        have q1 : PoS K W L f Δ Δb Δc (bnd (gb ρ1) fun fl => match fl with | .nx ρ' => gWhile gt gb m ρ' | .ct ρ' => gWhile gt gb m ρ' | .bk ρ' => .ok (.nx ρ') | .rt d => .ok (.rt d)) E := q1
        cases e2 : gb ρ1 with
        | bad => rw [e2] at q1; exact q1
        | ex z => rw [e2] at q1; exact q1
        | ok fl =>
          rw [e2, bnd_ok] at q1
          cases fl with
          | nx ρ' => exact fun σ' H' r' => ⟨ρ', r', q1⟩
          | ct ρ' => exact fun σ' H' r' => ⟨ρ', r', q1⟩
          | bk ρ' => exact q1
          | rt d => exact q1
theorem PoS.toG {f : Fm} {gg : List V × List Dt × Bool} {o : O Fl} {E : Ends} (q : PoS K W L f Δn Δb Δc o E) : PoS K W L { f with Γ := gg :: f.Γ } Δn Δb Δc o E := by
  cases o with
  | bad => exact q
  | ex z => exact q
  | ok fl =>
    cases fl with
    | nx ρ => exact fun σ' H' r => q σ' H' r.dropG
    | rt d => exact q
    | bk ρ => exact fun σ' H' r => q σ' H' r.dropG
    | ct ρ => exact fun σ' H' r => q σ' H' r.dropG
theorem s_for {wi : TI} {gg : TG} {sl : List Nat} {n : Nat} {hh : Dt → List Dt → O (List Dt)} {TK : Bool → List Kd → List Kd} {gI : List Dt → O (List Dt)} (hn : Δ.length = n) (h : SI K W Δ wi false fr gI) (hg : GJ K n gg sl hh TK) (hb : SS K W L (TK fr Δ) Δ Δ Δ t gb) :
    SS K W L Δ Δ Δb Δc (tFor wi gg t) (gFor gI hh gb) := fun f ρ σ H E r q => h f ρ σ H _ r <| by
  unfold gFor at q
  cases e : gI ρ with
  | bad => rw [e] at q; exact q
  | ex z => rw [e] at q; exact fun H' s => q σ H' (r.ext.trans s)
  | ok ds =>
    rw [e, bnd_ok] at q
    intro J H1 pf vs es s1 hpf _ x sc
    have hpf := hpf rfl
    subst hpf
    have r1 := (r.mono s1).addG (fr := fr) x
    have q1 := q.toG (gg := (vs, es, fr))
    generalize hf1 : ({ f with Γ := (vs, es, fr) :: f.Γ } : Fm) = f1 at r1 q1
    have gG : (vs, es, fr) ∈ f1.Γ := by rw [← hf1]; exact List.mem_cons_self
    refine ⟨fun i m σ H => m = ds.length - i ∧ i ≤ ds.length ∧ ∃ ρ, R K f1 Δ ρ σ H ∧ PoS K W L f1 Δ Δb Δc (forE hh gb (ds.drop i) ρ) E, ⟨ds.length, by simp, Nat.zero_le _, ρ, r1, q1⟩, ?_⟩
    rintro i m σ2 H2 ⟨rfl, hi, ρ2, r2, q2⟩
    have stand : (∀ q, (none : Option (Addr × HO)) = some q → H2 q.1 = some q.2) ∧ ∃ F, RpA K F H2 vs es := ⟨fun _ e => (nomatch e), _, r2.gh _ gG⟩
    by_cases hlt : i < ds.length
    · refine .inr ⟨sc.goes i H2 hlt stand, fun σ' H' => i + 1 ≤ ds.length ∧ ∃ ρ, R K f1 Δ ρ σ' H' ∧ PoS K W L f1 Δ Δb Δc (forE hh gb (ds.drop (i + 1)) ρ) E, fun σ' H' w => ⟨ds.length - (i + 1), by omega, rfl, w⟩, fun x H3 hy => ?_⟩
      obtain ⟨s3, hx⟩ := sc.yields i H2 x H3 hlt stand hy
      obtain ⟨d, hd, x3⟩ := hx _ (r2.gh _ gG)
      have edrop : ds.drop i = d :: ds.drop (i + 1) := by
        have hd' := (List.getElem?_eq_some_iff.mp hd).2
        rw [List.drop_eq_getElem_cons hlt, hd']
      rw [edrop] at q2
      unfold forE at q2
      refine hg f1 Δ ρ2 σ2 H3 x d fr _ hn (r2.mono s3) x3 ?_
      cases eh : hh d ρ2 with
      | bad => rw [eh] at q2; exact q2.elim
      | ex z => rw [eh] at q2; exact q2.elim
      | ok ρ3 =>
        rw [eh] at q2
        simp only at q2
        intro σ4 t4
        refine hb f1 ρ3 σ4 H3 _ t4.r ?_
        cases e2 : gb ρ3 with
        | bad => rw [e2] at q2; exact q2
        | ex z => rw [e2] at q2; exact q2
        | ok fl =>
          rw [e2, bnd_ok] at q2
          cases fl with
          | nx ρ' => exact fun σ' H' r' => ⟨hlt, ρ', r', q2⟩
          | ct ρ' => exact fun σ' H' r' => ⟨hlt, ρ', r', q2⟩
          | bk ρ' => exact q2
          | rt d => exact q2
    · have ei : i = ds.length := by omega
      subst ei
      rw [List.drop_length] at q2
      exact .inl ⟨sc.stops H2 stand, q2 σ2 H2 r2⟩
end

/-! ### promises, calls -/
def Wcls (mg : Str → Option Value) (e : Exn) (E : XK) (H' : Hp) : Prop := ∀ C, mg e.cls = some (.ref C) → match e.arg with
  | none => E (.ref C) none H'
  | some m => ∀ d, H' d = some (.xd [("moment", .int m)]) → E (.ref C) (some d) H'
def spG (K : PySem.W.Frag) (mg : Str → Option Value) (n : Nat) (g : List Dt → O Dt) : Sp := fun vs H Q E => ∃ ds, vs.length = n ∧ RpA K (fun _ => True) H vs ds ∧ (match g ds with
  | .bad => False
  | .ex e => ∀ H', Same H H' → Wcls mg e E H'
  | .ok d => ∀ v H', Same H H' → Rp K (fun a => H a = none) H' v d → Q v H')
/-- what is told may hold what was handed in -/
def spA (K : PySem.W.Frag) (mg : Str → Option Value) (n : Nat) (g : List Dt → O Dt) : Sp := fun vs H Q E => ∃ ds F, vs.length = n ∧ RpA K F H vs ds ∧ (match g ds with
  | .bad => False
  | .ex e => ∀ H', Same H H' → Wcls mg e E H'
  | .ok d => ∀ v H', Same H H' → Rp K (fun a => F a ∨ H a = none) H' v d → Q v H')
/-- a new list is told -/
def spL (K : PySem.W.Frag) (mg : Str → Option Value) (n : Nat) (g : List Dt → O Dt) : Sp := fun vs H Q E => ∃ ds, vs.length = n ∧ RpA K (fun _ => True) H vs ds ∧ (match g ds with
  | .bad => False
  | .ex e => ∀ H', Same H H' → Wcls mg e E H'
  | .ok d => ∀ p H', H p = none → Same H H' → OwC K .l (fun a => H a = none ∧ a ≠ p) H' p d → Q (.ref p) H')
def gCallN (n : Nat) (g : List Dt → O Dt) (gA : List Dt → O (List Dt)) : Gd := fun ρ => bnd (gA ρ) fun ds => if ds.length = n then (match g ds with
  | .ok d => .ok d
  | _ => .bad) else .bad
section
variable {K : PySem.W.Frag} {W : Wt} {Δ : List Kd} {ta : TA} {gA : List Dt → O (List Dt)} {av fr : Bool} {mg : Str → Option Value} {n : Nat} {g : List Dt → O Dt}
theorem se_callN (h : SA K W Δ ta av fr gA) : SE K W Δ (tCall (spG K mg n g) [] E0 ta) (.v true true) (gCallN n g gA) := fun f ρ σ H Q r q => h f ρ σ H _ r <| by
  unfold gCallN at q
  cases e : gA ρ with
  | bad => rw [e] at q; exact q
  | ex z => rw [e] at q; exact q
  | ok ds =>
    rw [e, bnd_ok] at q
    intro vs H1 s1 x1
    by_cases hn : ds.length = n
    · rw [if_pos hn] at q
      rw [List.append_nil]
      refine ⟨ds, by rw [x1.length]; exact hn, x1.weak fun _ _ => trivial, ?_⟩
      cases e2 : g ds with
      | bad => rw [e2] at q; exact q.elim
      | ex z => rw [e2] at q; exact q.elim
      | ok d =>
        rw [e2] at q
        intro v H2 s2 x2
        refine q v H2 (s1.trans s2) (x2.weak fun a na => ?_)
        obtain ⟨f1, f2, f3⟩ := (r.mono s1).fresh na
        exact ⟨fun _ => ⟨f1, f2⟩, fun _ => r.g0 a f3⟩
    · rw [if_neg hn] at q
      exact q.elim
theorem se_callL (h : SA K W Δ ta av fr gA) : SE K W Δ (tCall (spL K mg n g) [] E0 ta) (.new .l true) (gCallN n g gA) := fun f ρ σ H Q r q => h f ρ σ H _ r <| by
  unfold gCallN at q
  cases e : gA ρ with
  | bad => rw [e] at q; exact q
  | ex z => rw [e] at q; exact q
  | ok ds =>
    rw [e, bnd_ok] at q
    intro vs H1 s1 x1
    by_cases hn : ds.length = n
    · rw [if_pos hn] at q
      rw [List.append_nil]
      refine ⟨ds, by rw [x1.length]; exact hn, x1.weak fun _ _ => trivial, ?_⟩
      cases e2 : g ds with
      | bad => rw [e2] at q; exact q.elim
      | ex z => rw [e2] at q; exact q.elim
      | ok d =>
        rw [e2] at q
        intro p H2 np s2 x2
        refine q p H2 (s1.free np) (s1.trans s2) (x2.map (fun _ e => e) fun _ _ y => y.weak fun a na => ?_)
        obtain ⟨f1, f2, f3⟩ := (r.mono s1).fresh na.1
        exact ⟨⟨fun _ => ⟨f1, f2⟩, fun _ => r.g0 a f3⟩, na.2⟩
    · rw [if_neg hn] at q
      exact q.elim
theorem se_callA (h : SA K W Δ ta av fr gA) : SE K W Δ (tCall (spA K mg n g) [] E0 ta) (.v av fr) (gCallN n g gA) := fun f ρ σ H Q r q => h f ρ σ H _ r <| by
  unfold gCallN at q
  cases e : gA ρ with
  | bad => rw [e] at q; exact q
  | ex z => rw [e] at q; exact q
  | ok ds =>
    rw [e, bnd_ok] at q
    intro vs H1 s1 x1
    by_cases hn : ds.length = n
    · rw [if_pos hn] at q
      rw [List.append_nil]
      refine ⟨ds, _, by rw [x1.length]; exact hn, x1, ?_⟩
      cases e2 : g ds with
      | bad => rw [e2] at q; exact q.elim
      | ex z => rw [e2] at q; exact q.elim
      | ok d =>
        rw [e2] at q
        intro v H2 s2 x2
        refine q v H2 (s1.trans s2) (x2.weak fun a na => ?_)
        rcases na with na | na
        · exact na
        · obtain ⟨f1, f2, f3⟩ := (r.mono s1).fresh na
          exact ⟨fun _ => ⟨f1, f2⟩, fun _ => r.g0 a f3⟩
    · rw [if_neg hn] at q
      exact q.elim
end
end Sim
end T_SimF

section T_SimG
set_option Elab.async false
set_option linter.all false
set_option maxRecDepth 100000
/-! SimG: the rules for a text: subscripts, walks, comprehensions, calls, statements, defs. -/
namespace Sim
open PySem PySem.Spec L2
open PyProof.Rows hiding St

section
variable {X : Cx} {K : PySem.W.Frag} {W : Wt} {Δ Δ1 Δn Δb Δc : List Kd} {a b c e elt tg iter : Expr} {es ifs : List Expr} {ta tb tc te : TE} {tt tu : TT} {tA : TA} {ga gb gc g ge gi : Gd} {gt gu : List Dt → O Bool} {gA gI : List Dt → O (List Dt)} {k k1 k2 : Rk} {av fr av' fr' : Bool} {L : Lk} {pos : Pos} {t u : TS} {g1 g2 : Gs}

/-! subscripts, slices -/
theorem x_ix (ha : PD X K W Δ a ta (.v av fr) ga) (hb : PD X K W Δ b tb (.v av' fr') gb) (hs : PlainIx b := by exact fun _ _ => rfl) : PD X K W Δ (.Subscript a b pos) (tOp (rIx K) ta tb) (.v av fr) (gOp hIx ga gb) :=
  ⟨pe_ix (by have q := ix_seq (X := X); rw [ha.hK] at q; exact q) ha.pe hb.pe hs, ha.hK, se_ix ha.se hb.se⟩
theorem x_ixO (ha : PD X K W Δ a ta (.o fr) ga) (hb : PD X K W Δ b tb (.v av' fr') gb) (hs : PlainIx b := by exact fun _ _ => rfl) : PD X K W Δ (.Subscript a b pos) (tOp (rIx K) ta tb) (.v true fr) (gOp hIx ga gb) :=
  ⟨pe_ix (by have q := ix_seq (X := X); rw [ha.hK] at q; exact q) ha.pe hb.pe hs, ha.hK, se_ixO ha.se hb.se⟩
structure OD (X : Cx) (K : PySem.W.Frag) (W : Wt) (Δ : List Kd) (e : Option Expr) (to : TOp) (g : List Dt → O (Option Int)) : Prop where
  po : PO X e to
  so : SO K W Δ to g
theorem o_none : OD X K W Δ none tNoPart gNoPart := ⟨po_none, so_none⟩
theorem o_some (h : PD X K W Δ e te (.v av fr) g) : OD X K W Δ (some e) (tPart te) (gPart g) := ⟨po_some h.pe, so_some h.se⟩
theorem x_sl {lo hi : Option Expr} {tl th : TOp} {gl gh : List Dt → O (Option Int)} {p2 : Pos} (h : PD X K W Δ e te (.v true fr) g) (h1 : OD X K W Δ lo tl gl) (h2 : OD X K W Δ hi th gh) : PD X K W Δ (.Subscript e (.Slice lo hi none p2) pos) (tSl (rSlL K) te tl th) (.new .l fr) (gSl hSl g gl gh) :=
  ⟨pe_slice (by have q := sl_list (X := X); rw [h.hK] at q; exact q) h.pe h1.po h2.po, h.hK, se_sl h.se h1.so h2.so⟩
theorem x_slO {lo hi : Option Expr} {tl th : TOp} {gl gh : List Dt → O (Option Int)} {p2 : Pos} (h : PD X K W Δ e te (.o fr) g) (h1 : OD X K W Δ lo tl gl) (h2 : OD X K W Δ hi th gh) : PD X K W Δ (.Subscript e (.Slice lo hi none p2) pos) (tSl (rSlL K) te tl th) (.new .l fr) (gSl hSl g gl gh) :=
  ⟨pe_slice (by have q := sl_list (X := X); rw [h.hK] at q; exact q) h.pe h1.po h2.po, h.hK, se_slO h.se h1.so h2.so⟩
theorem x_slT {lo hi : Option Expr} {tl th : TOp} {gl gh : List Dt → O (Option Int)} {p2 : Pos} (h : PD X K W Δ e te (.v av fr) g) (h1 : OD X K W Δ lo tl gl) (h2 : OD X K W Δ hi th gh) : PD X K W Δ (.Subscript e (.Slice lo hi none p2) pos) (tSl (rSlA K) te tl th) (.v av fr) (gSl hSlT g gl gh) :=
  ⟨pe_slice (by have q := sl_tupA (X := X); rw [h.hK] at q; exact q) h.pe h1.po h2.po, h.hK, se_slT h.se h1.so h2.so⟩

/-! list + list, list * int -/
theorem x_cat (ha : PD X K W Δ a ta (.v true fr) ga) (hb : PD X K W Δ b tb (.v true fr') gb) : PD X K W Δ (.BinOp a .Add b pos) (tOp (rCatS K) ta tb) (.new .l (fr && fr')) (gOp hCat ga gb) :=
  ⟨pe_op (by have q := op_catS (X := X); rw [ha.hK] at q; exact q) ha.pe hb.pe, ha.hK, se_cat ha.se hb.se⟩
theorem x_catO (ha : PD X K W Δ a ta (.o fr) ga) (hb : PD X K W Δ b tb (.v true fr') gb) : PD X K W Δ (.BinOp a .Add b pos) (tOp (rCatS K) ta tb) (.new .l (fr && fr')) (gOp hCat ga gb) :=
  ⟨pe_op (by have q := op_catS (X := X); rw [ha.hK] at q; exact q) ha.pe hb.pe, ha.hK, se_catO ha.se hb.se⟩
theorem x_rep (ha : PD X K W Δ a ta (.new .l fr) ga) (hb : PD X K W Δ b tb (.v av' fr') gb) : PD X K W Δ (.BinOp a .Mult b pos) (tOp rRep ta tb) (.new .l fr) (gOp hRep ga gb) := ⟨pe_op op_rep ha.pe hb.pe, ha.hK, se_rep ha.se hb.se⟩

/-! list(x), tuple(x), sorted(x) -/
theorem x_list {x : Str} {p : Pos} (hm : X.mg x = none) (h : AD X K W Δ (e :: es) tA true fr gA) (hv : bootBuiltins x = some (.type "list") := by decide +kernel) (hg : Gl X x := by rfl) (hn : x ≠ "__name__" := by decide) (hdb : (x == ("__debug__" : Str)) = false := by decide)
    (he : starEach (e :: es) X.env = (false, eval e X.env) :: starEach es X.env := by rfl) (hpl : (backTo pos (starEach es X.env)).any (·.1) = false := by rfl) :
    PD X K W Δ (.Call (.Name x p) (e :: es) [] pos) (tCB (rListOf K) tA) (.new .l fr) (gCB (one hListOf) gA) :=
  ⟨pe_callTy (by have q := call_list_of (X := X); rw [h.hK] at q; exact q) hg hm hv h.pa hn hdb he hpl, h.hK, se_listOf h.sa⟩
theorem x_listO {x : Str} {p : Pos} (hm : X.mg x = none) (h : PD X K W Δ e te (.o fr) g) (hv : bootBuiltins x = some (.type "list") := by decide +kernel) (hg : Gl X x := by rfl) (hn : x ≠ "__name__" := by decide) (hdb : (x == ("__debug__" : Str)) = false := by decide)
    (he : starEach [e] X.env = (false, eval e X.env) :: starEach [] X.env := by rfl) (hpl : (backTo pos (starEach [] X.env)).any (·.1) = false := by rfl) :
    PD X K W Δ (.Call (.Name x p) [e] [] pos) (tCB (rListOf K) (tCons te tNil)) (.new .l fr) (gCB (one hListOf) (gCons g gNil)) :=
  ⟨pe_callTy (by have q := call_list_of (X := X); rw [h.hK] at q; exact q) hg hm hv (pa_cons h.pe pa_nil he) hn hdb he hpl, h.hK, se_listOwn h.se⟩
theorem x_tuple {x : Str} {p : Pos} (hm : X.mg x = none) (h : AD X K W Δ (e :: es) tA av fr gA) (hv : bootBuiltins x = some (.type "tuple") := by decide +kernel) (hg : Gl X x := by rfl) (hn : x ≠ "__name__" := by decide) (hdb : (x == ("__debug__" : Str)) = false := by decide)
    (he : starEach (e :: es) X.env = (false, eval e X.env) :: starEach es X.env := by rfl) (hpl : (backTo pos (starEach es X.env)).any (·.1) = false := by rfl) :
    PD X K W Δ (.Call (.Name x p) (e :: es) [] pos) (tCB (fun xs H Q => ∃ p ys, xs = [.ref p] ∧ ((SqL K H p ys ∧ ∀ l, H l = none → Q (.ref l) (upd H l (.tup ys))) ∨ (SqT K H p ys ∧ Q (.ref p) H))) tA) (.v av fr) (gCB (one hTupOf) gA) :=
  ⟨pe_callTy (by have q := call_tuple_of (X := X); rw [h.hK] at q; exact q) hg hm hv h.pa hn hdb he hpl, h.hK, se_tupOf h.sa⟩
theorem x_sorted {x : Str} {p : Pos} (hm : X.mg x = none) (h : AD X K W Δ (e :: es) tA av fr gA) (hv : bootBuiltins x = some (.builtin "sorted") := by decide +kernel) (hg : Gl X x := by rfl) (hn : x ≠ "__name__" := by decide) (hdb : (x == ("__debug__" : Str)) = false := by decide)
    (he : starEach (e :: es) X.env = (false, eval e X.env) :: starEach es X.env := by rfl) (hpl : (backTo pos (starEach es X.env)).any (·.1) = false := by rfl) :
    PD X K W Δ (.Call (.Name x p) (e :: es) [] pos) (tCB (rSortedI K) tA) (.new .l true) (gCB (one hSorted) gA) :=
  ⟨pe_callB (by have q := cr_sortedI (X := X); rw [h.hK] at q; exact q) hg hm hv h.pa hn hdb he hpl, h.hK, se_sorted h.sa⟩

/-! what is walked -/
theorem i_seq (h : PD X K W Δ e te (.v true fr) g) : ID X K W Δ tg e (iSeq K te) false fr (gSeq g) := ⟨by have q := pi_seq (tg := tg) h.pe; rw [h.hK] at q; exact q, h.hK, si_seq h.se⟩
theorem i_own (h : PD X K W Δ e te (.o fr) g) : ID X K W Δ tg e (iSeq K te) true fr (gSeq g) := ⟨by have q := pi_seq (tg := tg) h.pe; rw [h.hK] at q; exact q, h.hK, si_own h.se⟩
theorem i_rng1 {p : Pos} (hm : X.mg "range" = none) (h : AD X K W Δ [a] tA av fr gA) (hg : Gl X "range" := by rfl) (hs : starEach [a] X.env = [(false, eval a X.env)] := by rfl) : ID X K W Δ tg (.Call (.Name "range" p) [a] [] pos) (iRng1 tA) false true (gRng1 gA) := ⟨pi_range1 hg hm h.pa hs, h.hK, si_rng1 h.sa⟩
theorem i_rng2 {p : Pos} (hm : X.mg "range" = none) (h : AD X K W Δ [a, b] tA av fr gA) (hg : Gl X "range" := by rfl) (hs : starEach [a, b] X.env = [(false, eval a X.env), (false, eval b X.env)] := by rfl) (hs2 : starEach [b] X.env = [(false, eval b X.env)] := by rfl) :
    ID X K W Δ tg (.Call (.Name "range" p) [a, b] [] pos) (iRng2 tA) false true (gRng2 gA) := ⟨pi_range2 hg hm h.pa hs hs2, h.hK, si_rng2 h.sa⟩

/-! targets -/
theorem g_tup {n m kk : Nat} {gs : TGs} {sl : List Nat} {u : List Dt → List Dt → O (List Dt)} {T : Bool → List Kd → List Kd} (hc : X.calm = true) (h : GDs X K n es gs sl u T) (hm : ∀ ds ρ, ds.length ≠ m → ∀ z, u ds ρ ≠ .ok z) (hl : (assignEach es X.env).length = m := by rfl) (hst : List.findIdx? (fun x => x.fst) (assignEach es X.env) = none := by rfl) :
    GD X K n (.Tuple es kk pos) (L2.gTup K m gs) sl (tgT u) T := ⟨by have q := pg_tup (X := X) (k := kk) (n := m) (pos := pos) hc h.pg hl hst; rw [h.hK] at q; exact q, h.hK, gj_tup h.gj hm⟩

/-! comprehensions -/
structure TsD (X : Cx) (K : PySem.W.Frag) (Δ : List Kd) (ifs : List Expr) (tt : TT) (g : List Dt → O Bool) : Prop where
  pts : PTs X ifs tt
  st : ST K W0 Δ tt g
theorem t_nil : TsD X K Δ [] tYes gYes := ⟨pts_nil, fun f ρ σ H Q r q => q H (Same.refl H)⟩
theorem t_one (h : TD X K W0 Δ c tt gt) : TsD X K Δ [c] tt gt := ⟨pts_one h.pt, h.st⟩

theorem x_lc {n : Nat} {scope : Scope} (own : List (Str × Nat)) {wi : TI} {gg : TG} {sl : List Nat} {hh : Dt → List Dt → O (List Dt)} {TK : Bool → List Kd → List Kd} {bb : Bool} (hN : X.N.Nodup) (hi : ID X K W Δ tg iter wi bb fr gI) (ok : blkC X.N X.env.scope scope own = true)
    (hg : ∀ (s : Shared) (H : Hp) (C : Addr) (cl : List (Str × Addr)) (fp : List Addr), GD (X.blk s H scope (compEnvC scope cl C X.env) fp) K n tg gg sl hh TK)
    (ht : ∀ (s : Shared) (H : Hp) (C : Addr) (cl : List (Str × Addr)) (fp : List Addr), TsD (X.blk s H scope (compEnvC scope cl C X.env) fp) K (TK fr (wipeK Δ (own.map (·.2)))) ifs tt gt)
    (he : ∀ (s : Shared) (H : Hp) (C : Addr) (cl : List (Str × Addr)) (fp : List Addr), PD (X.blk s H scope (compEnvC scope cl C X.env) fp) K W0 (TK fr (wipeK Δ (own.map (·.2)))) elt te (.v true fr') ge)
    (hn : Δ.length = n := by rfl) (hsl : ∀ i ∈ sl, i ∈ own.map (·.2) := by decide) (no : noOwn Δ (own.map (·.2)) = true := by rfl) (hc : X.calm = true := by rfl) (hs : ∀ x, foldedSetIterable iter X.env x = pure x := by intro _; rfl) :
    PD X K W Δ (.ListComp elt [⟨tg, iter, ifs, 0⟩] scope pos) (tLc wi gg tt te (own.map (·.2))) (.new .l fr') (gLc gI hh gt ge) :=
  ⟨pe_lc hc hN hi.pi (blkOk_by ok) (fun s H C cl fp => (hg s H C cl fp).pg) (fun s H C cl fp => (ht s H C cl fp).pts) (fun s H C cl fp => (he s H C cl fp).pe) hs, hi.hK,
    se_lc hi.si (hg X.s_0 X.H_0 0 [] []).gj hn hsl no (ht X.s_0 X.H_0 0 [] []).st (he X.s_0 X.H_0 0 [] []).se⟩

/-! calls -/
theorem x_callN {x : Str} {p : Pos} {CXT' : CXT} {kk nn : Nat} {fa : Addr} {fd : FuncData} {ps : List Str} {gg : List Dt → O Dt} {mg : Str → Option Value} (F : FnOk X.prog X.w X.K X.mg X.base CXT' kk fa fd ps (spG K mg nn gg)) (hr : Room kk X.A) (hm : X.mg x = some (.ref fa)) (hk : PySem.W.keepIn X.K (.ref fa) = true) (hb : Binds X.K fd ps [])
    (hx : Passes CXT' X E0) (h : AD X K W Δ (e :: es) tA av fr gA) (hg : Gl X x := by rfl) (hdb : (x == ("__debug__" : Str)) = false := by decide) (he : starEach (e :: es) X.env = (false, eval e X.env) :: starEach es X.env := by rfl) (hpl : (backTo pos (starEach es X.env)).any (·.1) = false := by rfl) :
    PD X K W Δ (.Call (.Name x p) (e :: es) [] pos) (tCall (spG K mg nn gg) [] E0 tA) (.v true true) (gCallN nn gg gA) := ⟨pe_call F hr hg hm hk hb .nil hx h.pa hdb he hpl, h.hK, se_callN h.sa⟩
theorem x_callL {x : Str} {p : Pos} {CXT' : CXT} {kk nn : Nat} {fa : Addr} {fd : FuncData} {ps : List Str} {gg : List Dt → O Dt} {mg : Str → Option Value} (F : FnOk X.prog X.w X.K X.mg X.base CXT' kk fa fd ps (spL K mg nn gg)) (hr : Room kk X.A) (hm : X.mg x = some (.ref fa)) (hk : PySem.W.keepIn X.K (.ref fa) = true) (hb : Binds X.K fd ps [])
    (hx : Passes CXT' X E0) (h : AD X K W Δ (e :: es) tA av fr gA) (hg : Gl X x := by rfl) (hdb : (x == ("__debug__" : Str)) = false := by decide) (he : starEach (e :: es) X.env = (false, eval e X.env) :: starEach es X.env := by rfl) (hpl : (backTo pos (starEach es X.env)).any (·.1) = false := by rfl) :
    PD X K W Δ (.Call (.Name x p) (e :: es) [] pos) (tCall (spL K mg nn gg) [] E0 tA) (.new .l true) (gCallN nn gg gA) := ⟨pe_call F hr hg hm hk hb .nil hx h.pa hdb he hpl, h.hK, se_callL h.sa⟩
theorem x_callA {x : Str} {p : Pos} {CXT' : CXT} {kk nn : Nat} {fa : Addr} {fd : FuncData} {ps : List Str} {gg : List Dt → O Dt} {mg : Str → Option Value} (F : FnOk X.prog X.w X.K X.mg X.base CXT' kk fa fd ps (spA K mg nn gg)) (hr : Room kk X.A) (hm : X.mg x = some (.ref fa)) (hk : PySem.W.keepIn X.K (.ref fa) = true) (hb : Binds X.K fd ps [])
    (hx : Passes CXT' X E0) (h : AD X K W Δ (e :: es) tA av fr gA) (hg : Gl X x := by rfl) (hdb : (x == ("__debug__" : Str)) = false := by decide) (he : starEach (e :: es) X.env = (false, eval e X.env) :: starEach es X.env := by rfl) (hpl : (backTo pos (starEach es X.env)).any (·.1) = false := by rfl) :
    PD X K W Δ (.Call (.Name x p) (e :: es) [] pos) (tCall (spA K mg nn gg) [] E0 tA) (.v av fr) (gCallN nn gg gA) := ⟨pe_call F hr hg hm hk hb .nil hx h.pa hdb he hpl, h.hK, se_callA h.sa⟩
end

/-! ### statements -/
structure SD (X : Cx) (K : PySem.W.Frag) (W : Wt) (L : Lk) (Δ Δn Δb Δc : List Kd) (st : Stmt) (ts : TS) (g : Gs) : Prop where
  ps : PS X st ts
  hK : X.K = K
  ss : SS K W L Δ Δn Δb Δc ts g
structure BD (X : Cx) (K : PySem.W.Frag) (W : Wt) (L : Lk) (Δ Δn Δb Δc : List Kd) (sts : List Stmt) (ts : TS) (g : Gs) : Prop where
  ps : PSs X sts ts
  hK : X.K = K
  ss : SS K W L Δ Δn Δb Δc ts g
section
variable {X : Cx} {K : PySem.W.Frag} {W : Wt} {Δ Δ1 Δ2 Δn Δb Δc : List Kd} {a b c e elt tg iter : Expr} {es ifs : List Expr} {ta tb tc te ti : TE} {tt tu : TT} {tA : TA} {ga gb gc g ge gi : Gd} {gt gu : List Dt → O Bool} {gA gI : List Dt → O (List Dt)} {k k1 k2 : Rk} {av fr av' fr' : Bool} {L : Lk} {pos pos' : Pos} {t u : TS} {g1 g2 : Gs} {st : Stmt} {sts sts2 : List Stmt}

theorem SD.pre (h : SD X K W L Δ1 Δn Δb Δc st t g1) (l : leA Δ Δ1 = true := by rfl) : SD X K W L Δ Δn Δb Δc st t g1 := ⟨h.ps, h.hK, h.ss.pre l⟩
theorem BD.post {Δn' Δb' Δc' : List Kd} (h : BD X K W L Δ Δn Δb Δc sts t g1) (ln : leA Δn Δn' = true := by rfl) (lb : leA Δb Δb' = true := by rfl) (lc : leA Δc Δc' = true := by rfl) : BD X K W L Δ Δn' Δb' Δc' sts t g1 := ⟨h.ps, h.hK, h.ss.post ln lb lc⟩
theorem b_nil (hK : X.K = K := by rfl) : BD X K W L Δ Δ Δb Δc [] tNext gNext := ⟨pss_nil, hK, s_next⟩
theorem b_one (h : SD X K W L Δ Δn Δb Δc st t g1) : BD X K W L Δ Δn Δb Δc [st] t g1 := ⟨pss_one h.ps, h.hK, h.ss⟩
theorem b_cons (h : SD X K W L Δ Δ1 Δb Δc st t g1) (h2 : BD X K W L Δ1 Δn Δb Δc sts u g2) : BD X K W L Δ Δn Δb Δc (st :: sts) (tSeq t u) (gSeqS g1 g2) := ⟨pss_cons h.ps h2.ps, h.hK, s_seq h.ss h2.ss⟩

theorem z_ret (h : PD X K W Δ e te (.v av true) g) : SD X K W .n Δ Δn Δb Δc (.Return (some e) pos) (tRet te) (gRet g) := ⟨ps_ret h.pe, h.hK, s_ret h.se⟩
theorem z_retL (h : PD X K W Δ e te (.new .l true) g) : SD X K W .l Δ Δn Δb Δc (.Return (some e) pos) (tRet te) (gRet g) := ⟨ps_ret h.pe, h.hK, s_retL h.se⟩
theorem z_retO (i : Nat) {x : Str} {p : Pos} (hk : Δ[i]? = some (.own .l true) := by rfl) (hN : X.N[i]? = some x := by rfl) (hv : Vis X.env.scope x := by first | exact Or.inl rfl | exact Or.inr (Or.inl rfl) | exact Or.inr (Or.inr rfl)) (hd : (x == ("__debug__" : Str)) = false := by decide)
    (hcd : (x == ("__classdict__" : Str)) = false := by decide) (hK : X.K = K := by rfl) : SD X K W .l Δ Δn Δb Δc (.Return (some (.Name x p)) pos) (tRet (tVar i)) (gRet (gVar i)) := ⟨ps_ret (pe_var hN hv hd hcd), hK, s_retO hk⟩
theorem z_retOp (i : Nat) {x : Str} {p : Pos} (hk : Δ[i]? = some (.own .l fr) := by rfl) (hN : X.N[i]? = some x := by rfl) (hv : Vis X.env.scope x := by first | exact Or.inl rfl | exact Or.inr (Or.inl rfl) | exact Or.inr (Or.inr rfl)) (hd : (x == ("__debug__" : Str)) = false := by decide)
    (hcd : (x == ("__classdict__" : Str)) = false := by decide) (hK : X.K = K := by rfl) : SD X K W .l Δ Δn Δb Δc (.Return (some (.Name x p)) pos) (tRet (tVar i)) (gRet (gPurV i)) := ⟨ps_ret (pe_var hN hv hd hcd), hK, s_retOp hk⟩
theorem z_expr (h : PD X K W Δ e te k g) (hs : swapsWith e none pos.line X.env = pure false := by rfl) : SD X K W L Δ Δ Δb Δc (.Expr e pos) (tDrop te) (gDrop g) := ⟨ps_expr h.pe hs, h.hK, s_drop h.se⟩
theorem z_set (i : Nat) {x : Str} (hN : X.N.Nodup) (h : PD X K W Δ e te (.v true fr) g) (hn : i < Δ.length := by decide) (hi : X.N[i]? = some x := by rfl) (hx : Loc X.env.scope x := by first | exact .inl rfl | exact .inr rfl) (hs : swapsWith e (some (.Name x pos')) pos.line X.env = pure false := by rfl) (hf : X.fn x = true ∨ X.env.scope.names.lookup x = some .local := by first | exact .inl rfl | exact .inr rfl) :
    SD X K W L Δ (Δ.set i (.im fr)) Δb Δc (.Assign [.Name x pos'] e pos) (tAsg te (gName i)) (gSet i g) := ⟨ps_set hN hi hx h.pe hs hf, h.hK, s_set hn h.se⟩
theorem z_setO (i : Nat) {x : Str} {ct : Ct} (hN : X.N.Nodup) (h : PD X K W Δ e te (.new ct fr) g) (hn : i < Δ.length := by decide) (hct : isArg ct = false := by rfl) (hi : X.N[i]? = some x := by rfl) (hx : Loc X.env.scope x := by first | exact .inl rfl | exact .inr rfl) (hs : swapsWith e (some (.Name x pos')) pos.line X.env = pure false := by rfl) (hf : X.fn x = true ∨ X.env.scope.names.lookup x = some .local := by first | exact .inl rfl | exact .inr rfl) :
    SD X K W L Δ (Δ.set i (.own ct fr)) Δb Δc (.Assign [.Name x pos'] e pos) (tAsg te (gName i)) (gSet i g) := ⟨ps_set hN hi hx h.pe hs hf, h.hK, s_setO hn h.se hct⟩
/-- y = [..] on one line, y a local -/
theorem z_setLc (i : Nat) {y : Str} {py : Pos} {n : Nat} {scope : Scope} (own : List (Str × Nat)) {wi : TI} {gg : TG} {sl : List Nat} {hh : Dt → List Dt → O (List Dt)} {TK : Bool → List Kd → List Kd} {bb : Bool} (hN : X.N.Nodup) (hi : ID X K W Δ tg iter wi bb fr gI) (ok : blkC X.N X.env.scope scope own = true)
    (hg : ∀ (s : Shared) (H : Hp) (C : Addr) (cl : List (Str × Addr)) (fp : List Addr), GD (X.blk s H scope (compEnvC scope cl C X.env) fp) K n tg gg sl hh TK)
    (ht : ∀ (s : Shared) (H : Hp) (C : Addr) (cl : List (Str × Addr)) (fp : List Addr), TsD (X.blk s H scope (compEnvC scope cl C X.env) fp) K (TK fr (wipeK Δ (own.map (·.2)))) ifs tt gt)
    (he : ∀ (s : Shared) (H : Hp) (C : Addr) (cl : List (Str × Addr)) (fp : List Addr), PD (X.blk s H scope (compEnvC scope cl C X.env) fp) K W0 (TK fr (wipeK Δ (own.map (·.2)))) elt te (.v true fr') ge)
    (hsw : swapsWith (.ListComp elt [⟨tg, iter, ifs, 0⟩] scope pos) (some (.Name y py)) pos'.line X.env = pure true) (hin : i < Δ.length := by decide) (hy : X.N[i]? = some y := by rfl) (hyl : X.env.scope.names.lookup y = some .local := by rfl)
    (hn : Δ.length = n := by rfl) (hsl : ∀ i ∈ sl, i ∈ own.map (·.2) := by decide) (no : noOwn Δ (own.map (·.2)) = true := by rfl) (hc : X.calm = true := by rfl) (hs : ∀ x, foldedSetIterable iter X.env x = pure x := by intro _; rfl) :
    SD X K W L Δ (Δ.set i (.own .l fr')) Δb Δc (.Assign [.Name y py] (.ListComp elt [⟨tg, iter, ifs, 0⟩] scope pos) pos') (tAsg (tLc wi gg tt te (own.map (·.2))) (gName i)) (gSet i (gLc gI hh gt ge)) :=
  ⟨ps_setLc hc hN hy hyl hsw hi.pi (blkOk_by ok) (fun s H C cl fp => (hg s H C cl fp).pg) (fun s H C cl fp => (ht s H C cl fp).pts) (fun s H C cl fp => (he s H C cl fp).pe) hs, hi.hK,
    s_setO hin (se_lc hi.si (hg X.s_0 X.H_0 0 [] []).gj hn hsl no (ht X.s_0 X.H_0 0 [] []).st (he X.s_0 X.H_0 0 [] []).se)⟩
theorem z_asg {n : Nat} {gg : TG} {sl : List Nat} {hh : Dt → List Dt → O (List Dt)} {TK : Bool → List Kd → List Kd} (h : PD X K W Δ e te (.v true fr) g) (hg : GD X K n tg gg sl hh TK) (hn : Δ.length = n := by rfl) (hs : swapsWithSole [tg] e pos.line X.env = pure false := by rfl) (hw : swappedStores [tg] e X.env = pure none := by rfl)
    (h1 : (assignEach [tg] X.env).map (·.2) = [assign tg X.env] := by rfl) : SD X K W L Δ (TK fr Δ) Δb Δc (.Assign [tg] e pos) (tAsg te gg) (gAsg g hh) := ⟨ps_asg h.pe hg.pg hs hw h1, h.hK, s_asg hn h.se hg.gj⟩
theorem z_par (i j : Nat) {x y : Str} {px py pt : Pos} {kt k2 : Nat} {pt2 : Pos} (hN : X.N.Nodup) (h : AD X K W Δ [a, b] tA true fr gA) (hij : i ≠ j := by decide) (hni : i < Δ.length := by decide) (hnj : j < Δ.length := by decide) (hi : X.N[i]? = some x := by rfl) (hj : X.N[j]? = some y := by rfl) (hx : X.env.scope.names.lookup x = some .local := by rfl) (hy : X.env.scope.names.lookup y = some .local := by rfl)
    (hw : swappedStores [.Tuple [.Name x px, .Name y py] kt pt] (.Tuple [a, b] k2 pt2) X.env = pure (some [x, y]) := by rfl) (hc : X.calm = true := by rfl) (hs : swapsWithSole [.Tuple [.Name x px, .Name y py] kt pt] (.Tuple [a, b] k2 pt2) pos.line X.env = pure false := by rfl) :
    SD X K W L Δ ((Δ.set i (.im fr)).set j (.im fr)) Δb Δc (.Assign [.Tuple [.Name x px, .Name y py] kt pt] (.Tuple [a, b] k2 pt2) pos) (tPar i j tA) (gPar i j gA) := ⟨ps_par hc hN hi hj hij hx hy h.pa hw hs, h.hK, s_par hni hnj h.sa⟩
theorem z_augA (i : Nat) {x : Str} (hN : X.N.Nodup) (h : PD X K W Δ e te (.v av' fr') g) (hk : Δ[i]? = some (.im fr) := by rfl) (hi : X.N[i]? = some x := by rfl) (hx : Loc X.env.scope x := by first | exact .inl rfl | exact .inr rfl) (hf : X.fn x = true ∨ X.env.scope.names.lookup x = some .local := by first | exact .inl rfl | exact .inr rfl) :
    SD X K W L Δ (Δ.set i (.im true)) Δb Δc (.AugAssign (.Name x pos') .Add e pos) (tAug i te (ipI fun i j => i + j)) (gAug (fun i j => i + j) i g) := ⟨ps_aug hN hi hx h.pe ip_add hf, h.hK, s_aug hk h.se⟩
theorem z_augS (i : Nat) {x : Str} (hN : X.N.Nodup) (h : PD X K W Δ e te (.v av' fr') g) (hk : Δ[i]? = some (.im fr) := by rfl) (hi : X.N[i]? = some x := by rfl) (hx : Loc X.env.scope x := by first | exact .inl rfl | exact .inr rfl) (hf : X.fn x = true ∨ X.env.scope.names.lookup x = some .local := by first | exact .inl rfl | exact .inr rfl) :
    SD X K W L Δ (Δ.set i (.im true)) Δb Δc (.AugAssign (.Name x pos') .Sub e pos) (tAug i te (ipI fun i j => i - j)) (gAug (fun i j => i - j) i g) := ⟨ps_aug hN hi hx h.pe ip_sub hf, h.hK, s_aug hk h.se⟩
theorem z_app (i : Nat) {x : Str} {p p1 p2 : Pos} (h : PD X K W Δ e te (.v true fr') g) (hk : Δ[i]? = some (.own .l fr) := by rfl) (hv : Vis X.env.scope x := by first | exact Or.inl rfl | exact Or.inr (Or.inl rfl) | exact Or.inr (Or.inr rfl)) (hN : X.N[i]? = some x := by rfl) (hd : (x == ("__debug__" : Str)) = false := by decide) (hcd : (x == ("__classdict__" : Str)) = false := by decide)
    (hbase : attributeBase (.Name x p) "append" X.env (eval (.Name x p) X.env) = eval (.Name x p) X.env := by rfl)
    (hfew : ((backTo p2 (starEach [e] X.env)).all (fun x => !x.1) && (backToKw p2 (keywordEach [] X.env)).all (fun x => x.1.isSome)
      && decide ([e].length + ([] : List Keyword).length + (if ([] : List Keyword).isEmpty then 0 else 1) < 30)) = true := by rfl)
    (hline : (p1.endLine == p2.line) = true := by rfl) (hst : starEach [e] X.env = (false, eval e X.env) :: starEach [] X.env := by rfl) (hplain : (backTo p2 (starEach [] X.env)).any (·.1) = false := by rfl)
    (hs : swapsWith (.Call (.Attribute (.Name x p) "append" p1) [e] [] p2) none pos.line X.env = pure false := by rfl) :
    SD X K W L Δ (Δ.set i (.own .l (fr && fr'))) Δb Δc (.Expr (.Call (.Attribute (.Name x p) "append" p1) [e] [] p2) pos) (tDrop (tBM K "list" rAppend (tVar i) (tCons te tNil))) (gApp i g) :=
  ⟨by have q := ps_expr (pos := pos) (pe_bm PySem.F.plainAttrs_list PySem.F.slot_list_append PySem.F.type_list_append mt_append (pe_var hN hv hd hcd) (pa_cons h.pe pa_nil hst) hbase hfew hline hst hplain) hs; rw [h.hK] at q; exact q, h.hK, s_app hk h.se⟩
theorem z_ext (i : Nat) {x : Str} {p p1 p2 : Pos} (h : PD X K W Δ e te (.new .l fr') g) (hk : Δ[i]? = some (.own .l fr) := by rfl) (hv : Vis X.env.scope x := by first | exact Or.inl rfl | exact Or.inr (Or.inl rfl) | exact Or.inr (Or.inr rfl)) (hN : X.N[i]? = some x := by rfl) (hd : (x == ("__debug__" : Str)) = false := by decide) (hcd : (x == ("__classdict__" : Str)) = false := by decide)
    (hbase : attributeBase (.Name x p) "extend" X.env (eval (.Name x p) X.env) = eval (.Name x p) X.env := by rfl)
    (hfew : ((backTo p2 (starEach [e] X.env)).all (fun x => !x.1) && (backToKw p2 (keywordEach [] X.env)).all (fun x => x.1.isSome)
      && decide ([e].length + ([] : List Keyword).length + (if ([] : List Keyword).isEmpty then 0 else 1) < 30)) = true := by rfl)
    (hline : (p1.endLine == p2.line) = true := by rfl) (hst : starEach [e] X.env = (false, eval e X.env) :: starEach [] X.env := by rfl) (hplain : (backTo p2 (starEach [] X.env)).any (·.1) = false := by rfl)
    (hs : swapsWith (.Call (.Attribute (.Name x p) "extend" p1) [e] [] p2) none pos.line X.env = pure false := by rfl) :
    SD X K W L Δ (Δ.set i (.own .l (fr && fr'))) Δb Δc (.Expr (.Call (.Attribute (.Name x p) "extend" p1) [e] [] p2) pos) (tDrop (tBM K "list" rExtend (tVar i) (tCons te tNil))) (gExt i g) :=
  ⟨by have q := ps_expr (pos := pos) (pe_bm PySem.F.plainAttrs_list PySem.F.slot_list_extend PySem.F.type_list_extend mt_extend (pe_var hN hv hd hcd) (pa_cons h.pe pa_nil hst) hbase hfew hline hst hplain) hs; rw [h.hK] at q; exact q, h.hK, s_ext hk h.se⟩
theorem z_setI (i : Nat) {x : Str} {p : Pos} {ix : Expr} {sp : Pos} (h : PD X K W Δ e te (.v true fr') ge) (h2 : PD X K W Δ ix ti (.v av av') gi) (hk : Δ[i]? = some (.own .l fr) := by rfl) (hv : Vis X.env.scope x := by first | exact Or.inl rfl | exact Or.inr (Or.inl rfl) | exact Or.inr (Or.inr rfl)) (hN : X.N[i]? = some x := by rfl) (hd : (x == ("__debug__" : Str)) = false := by decide) (hcd : (x == ("__classdict__" : Str)) = false := by decide)
    (ha : ∀ v, assign (.Subscript (.Name x p) ix sp) X.env v = (do
      let ov ← holding [v] (eval (.Name x p) X.env)
      let iv ← holding [v, ov] (eval ix X.env)
      standAt sp
      holding [v, ov, iv] (setItem ov iv v)
      release [v, ov, iv] []) := by intro _; rfl) (hs : swapsWithSole [.Subscript (.Name x p) ix sp] e pos.line X.env = pure false := by rfl) (hw : swappedStores [.Subscript (.Name x p) ix sp] e X.env = pure none := by rfl)
    (h1 : (assignEach [.Subscript (.Name x p) ix sp] X.env).map (·.2) = [assign (.Subscript (.Name x p) ix sp) X.env] := by rfl) :
    SD X K W L Δ (Δ.set i (.own .l (fr && fr'))) Δb Δc (.Assign [.Subscript (.Name x p) ix sp] e pos) (tAsg te (gSub (tVar i) ti rSetL)) (gSetI i ge gi) := ⟨ps_asg h.pe (pg_sub (pe_var hN hv hd hcd) h2.pe set_list ha) hs hw h1, h.hK, s_setI hk h.se h2.se⟩
theorem z_if (h : TD X K W Δ c tt gt) (h1 : BD X K W L Δ Δn Δb Δc sts t g1) (h2 : BD X K W L Δ Δn Δb Δc sts2 u g2) : SD X K W L Δ Δn Δb Δc (.If c sts sts2 pos) (tIfS tt t u) (gIfS gt g1 g2) := ⟨ps_if h.pt h1.ps h2.ps, h.hK, s_if h.st h1.ss h2.ss⟩
theorem z_pass (hK : X.K = K := by rfl) : SD X K W L Δ Δ Δb Δc (.Pass pos) tNext gNext := ⟨ps_pass, hK, s_next⟩
theorem z_while (n : Nat) (hp : PassesOwn (model X.prog X.w) X.A X.env X.xe) (h : TD X K W Δ c tt gt) (hb : BD X K W L Δ Δ Δ Δ sts t g1) : SD X K W L Δ Δ Δb Δc (.While c sts [] pos) (tWhile tt t) (gWhile gt g1 n) := ⟨ps_while hp h.pt hb.ps, h.hK, s_while n h.st hb.ss⟩
theorem z_for {n : Nat} {wi : TI} {gg : TG} {sl : List Nat} {hh : Dt → List Dt → O (List Dt)} {TK : Bool → List Kd → List Kd} (hp : PassesOwn (model X.prog X.w) X.A X.env X.xe) (hi : ID X K W Δ tg iter wi false fr gI) (hg : GD X K n tg gg sl hh TK) (hb : BD X K W L (TK fr Δ) Δ Δ Δ sts t g1) (hn : Δ.length = n := by rfl) (hc : X.calm = true := by rfl)
    (hs : ∀ x, foldedSetIterable iter X.env x = pure x := by intro _; rfl) : SD X K W L Δ Δ Δb Δc (.For tg iter sts [] pos) (tFor wi gg t) (gFor gI hh g1) := ⟨ps_for hp hc hi.pi hg.pg hb.ps hs, hi.hK, s_for hn hi.si hg.gj hb.ss⟩
end

/-! ### defs -/
def fnN (m : Nat) (g : Gs) : List Dt → O Dt := fun ds => match g (ds ++ List.replicate (m - ds.length) .none) with
  | .ok (.rt d) => .ok d
  | .ok (.nx _) => .ok .none
  | _ => .bad
def fnL (m : Nat) (g : Gs) : List Dt → O Dt := fun ds => match g (ds ++ List.replicate (m - ds.length) .none) with
  | .ok (.rt d) => .ok d
  | _ => .bad
def kd0 (n m : Nat) (fr : Bool) : List Kd := List.replicate n (.im fr) ++ List.replicate (m - n) .no
theorem r_start {K : PySem.W.Frag} {H : Hp} {F G : Addr → Prop} {vs : List V} {ds : List Dt} {n m : Nat} {fr : Bool} {N : List Str} (hv : vs.length = n) (hN : N.length = m) (hm : n ≤ m) (x : RpA K F H vs ds) (hg : ∀ a, H a = none → G a) (hF : fr = true → ∀ a, F a → G a) :
    R K ⟨H, G, [], [], none⟩ (kd0 n m fr) (ds ++ List.replicate (m - ds.length) .none) (L2.start N vs) H := by
  have hd : ds.length = n := by rw [← x.length]; exact hv
  have noOw : ∀ (i : Nat) (c : Ct) (fr' : Bool), (kd0 n m fr)[i]? ≠ some (.own c fr') := fun i c fr' e => by
    unfold kd0 at e
    have := List.mem_of_getElem? e
    rcases List.mem_append.mp this with h | h
    · cases List.eq_of_mem_replicate h
    · cases List.eq_of_mem_replicate h
  refine ⟨Same.refl H, hg, ?_, ?_, fun i j ci fi cj fj p h1 => absurd h1 (noOw i ci fi), fun a ha => absurd ha (by simp), fun g hg => absurd hg (by simp), fun i fr' h => ?_, fun i c fr' h => absurd h (noOw i c fr'), fun i c fr' h => absurd h (noOw i c fr')⟩
  · unfold L2.start kd0
    rw [List.length_append, List.length_append, List.length_map, List.length_replicate, List.length_replicate, List.length_replicate, hv, hN]
  · unfold kd0
    rw [List.length_append, List.length_append, List.length_replicate, List.length_replicate, List.length_replicate, hd]
  · unfold kd0 at h
    by_cases hi : i < n
    · rw [List.getElem?_append_left (by rw [List.length_replicate]; exact hi)] at h
      have efr : fr' = fr := by
        have := List.eq_of_mem_replicate (List.mem_of_getElem? h)
        cases this; rfl
      subst efr
      have hi' : i < vs.length := by rw [hv]; exact hi
      obtain ⟨d, h1, h2⟩ := x.get (List.getElem?_eq_getElem hi')
      refine ⟨vs[i], d, ?_, ?_, h2.weak fun a fa => ⟨fun _ => ⟨fun z => ?_, by simp⟩, fun e => hF e a fa⟩⟩
      · unfold L2.start
        rw [List.getElem?_append_left (by rw [List.length_map]; exact hi'), List.getElem?_map, List.getElem?_eq_getElem hi']
        rfl
      · rw [List.getElem?_append_left (by rw [hd]; exact hi)]
        exact h1
      · obtain ⟨j, c, frj, g1, _⟩ := z
        exact noOw j c frj g1
    · rw [List.getElem?_append_right (by rw [List.length_replicate]; omega)] at h
      cases List.eq_of_mem_replicate (List.mem_of_getElem? h)
section
variable {P : Program} {w : World} {K : PySem.W.Frag} {mg : Str → Option Value} {base : Heap} {x qual : Str} {st : Stmt} {fa : Addr} {fd : FuncData} {N ps : List Str} {k n m : Nat} {Δn : List Kd} {g : Gs}
theorem fn_okN (F : L2.Fun K x qual st fa fd) (S : FnScope N ps (defScope st)) (hn : ps.length = n) (hm : N.length = m) (hnm : n ≤ m)
    (hb : ∀ (cdv : Value) (A : Around) (outer : List Env) (s : Shared) (H : Hp) (E : XK), Room k (A.deeper (envOfC qual (defScope st) s.heap.objs.size fa cdv)) → ∃ ts, BD (cxOf CX0 P w K mg base N qual (defScope st) fa cdv A outer s H E).nox K W0 .n (kd0 n m false) Δn (kd0 n m false) (kd0 n m false) (defBody st) ts g) :
    FnOk P w K mg base CX0 (k + 1) fa fd ps (spG K mg n (fnN m g)) := by
  refine F.ok S (fun vs H Q E h => ?_) (fun cdv A outer s H vs Q E hr h => ?_)
  · obtain ⟨ds, h1, _⟩ := h
    rw [h1, hn]
  · obtain ⟨ds, h1, h2, h3⟩ := h
    obtain ⟨ts, B⟩ := hb cdv A outer s H E hr
    refine ⟨ts, B.ps, B.ss ⟨H, fun a => H a = none, [], [], none⟩ _ _ H _ (r_start h1 hm hnm h2 (fun _ h => h) (fun e => nomatch e)) ?_⟩
    unfold fnN at h3
    cases e : g (ds ++ List.replicate (m - ds.length) .none) with
    | bad => rw [e] at h3; exact h3.elim
    | ex z => rw [e] at h3; exact h3.elim
    | ok fl =>
      rw [e] at h3
      cases fl with
      | nx ρ => exact fun σ' H' r => h3 .non H' r.ext .non
      | rt d => exact fun v H' s x => h3 v H' s x
      | bk ρ => exact h3.elim
      | ct ρ => exact h3.elim
theorem fn_okL (F : L2.Fun K x qual st fa fd) (S : FnScope N ps (defScope st)) (hn : ps.length = n) (hm : N.length = m) (hnm : n ≤ m)
    (hb : ∀ (cdv : Value) (A : Around) (outer : List Env) (s : Shared) (H : Hp) (E : XK), Room k (A.deeper (envOfC qual (defScope st) s.heap.objs.size fa cdv)) → ∃ ts, BD (cxOf CX0 P w K mg base N qual (defScope st) fa cdv A outer s H E).nox K W0 .l (kd0 n m false) Δn (kd0 n m false) (kd0 n m false) (defBody st) ts g) :
    FnOk P w K mg base CX0 (k + 1) fa fd ps (spL K mg n (fnL m g)) := by
  refine F.ok S (fun vs H Q E h => ?_) (fun cdv A outer s H vs Q E hr h => ?_)
  · obtain ⟨ds, h1, _⟩ := h
    rw [h1, hn]
  · obtain ⟨ds, h1, h2, h3⟩ := h
    obtain ⟨ts, B⟩ := hb cdv A outer s H E hr
    refine ⟨ts, B.ps, B.ss ⟨H, fun a => H a = none, [], [], none⟩ _ _ H _ (r_start h1 hm hnm h2 (fun _ h => h) (fun e => nomatch e)) ?_⟩
    unfold fnL at h3
    cases e : g (ds ++ List.replicate (m - ds.length) .none) with
    | bad => rw [e] at h3; exact h3.elim
    | ex z => rw [e] at h3; exact h3.elim
    | ok fl =>
      rw [e] at h3
      cases fl with
      | nx ρ => exact h3.elim
      | rt d => exact fun p H' np s x => h3 p H' np s x
      | bk ρ => exact h3.elim
      | ct ρ => exact h3.elim
theorem fn_okA (F : L2.Fun K x qual st fa fd) (S : FnScope N ps (defScope st)) (hn : ps.length = n) (hm : N.length = m) (hnm : n ≤ m)
    (hb : ∀ (cdv : Value) (A : Around) (outer : List Env) (s : Shared) (H : Hp) (E : XK), Room k (A.deeper (envOfC qual (defScope st) s.heap.objs.size fa cdv)) → ∃ ts, BD (cxOf CX0 P w K mg base N qual (defScope st) fa cdv A outer s H E).nox K W0 .n (kd0 n m true) Δn (kd0 n m true) (kd0 n m true) (defBody st) ts g) :
    FnOk P w K mg base CX0 (k + 1) fa fd ps (spA K mg n (fnN m g)) := by
  refine F.ok S (fun vs H Q E h => ?_) (fun cdv A outer s H vs Q E hr h => ?_)
  · obtain ⟨ds, F, h1, _⟩ := h
    rw [h1, hn]
  · obtain ⟨ds, F, h1, h2, h3⟩ := h
    obtain ⟨ts, B⟩ := hb cdv A outer s H E hr
    refine ⟨ts, B.ps, B.ss ⟨H, fun a => F a ∨ H a = none, [], [], none⟩ _ _ H _ (r_start h1 hm hnm h2 (fun _ h => .inr h) (fun _ a h => .inl h)) ?_⟩
    unfold fnN at h3
    cases e : g (ds ++ List.replicate (m - ds.length) .none) with
    | bad => rw [e] at h3; exact h3.elim
    | ex z => rw [e] at h3; exact h3.elim
    | ok fl =>
      rw [e] at h3
      cases fl with
      | nx ρ => exact fun σ' H' r => h3 .non H' r.ext .non
      | rt d => exact fun v H' s x => h3 v H' s x
      | bk ρ => exact h3.elim
      | ct ρ => exact h3.elim
end
end Sim
end T_SimG

section T_SimH
set_option Elab.async false
set_option linter.all false
set_option maxRecDepth 100000
/-! SimH: comparisons as values and tests, chains; kinds said outright. -/
namespace Sim
open PySem PySem.Spec L2
open PyProof.Rows hiding St

structure OR (X : Cx) (K : PySem.W.Frag) (op : CmpOp) (r : R2) (h : Dt → Dt → O Dt) : Prop where
  ho : OpR X (compareOp op) r
  scl : Scl2 h
  osc : OSc K r h
section
variable {X : Cx} {K : PySem.W.Frag} {W : Wt} {n : Nat}
theorem or_lt : OR X K .Lt (rI0 fun i j => .bl (decide (i < j))) hLt := ⟨op_lt, scl_B0, osc_B0⟩
theorem or_le : OR X K .LtE (rI0 fun i j => .bl (decide (i ≤ j))) hLe := ⟨op_le, scl_B0, osc_B0⟩
theorem or_gt : OR X K .Gt (rI0 fun i j => .bl (decide (j < i))) hGt := ⟨op_gt, scl_B0, osc_B0⟩
theorem or_ge : OR X K .GtE (rI0 fun i j => .bl (decide (j ≤ i))) hGe := ⟨op_ge, scl_B0, osc_B0⟩
theorem or_eq (hr : Room n X.A) (hK : X.K = K := by rfl) : OR X K .Eq (rEqD K) hEq := ⟨by have q := op_eqD (X := X) (by have := hr.un; omega); rw [hK] at q; exact q, scl_eq, osc_eq⟩
theorem or_ne (hr : Room n X.A) (hK : X.K = K := by rfl) : OR X K .NotEq (rNeD K) hNe := ⟨by have q := op_neD (X := X) (by have := hr.un; omega); rw [hK] at q; exact q, scl_ne, osc_ne⟩
theorem or_in (hr : Room n X.A) (hK : X.K = K := by rfl) : OR X K .In (rInDT K false) hIn := ⟨by have q := op_inDT (X := X) (by have := hr.un; omega); rw [hK] at q; exact q, scl_in, osc_in⟩
theorem or_notIn (hr : Room n X.A) (hK : X.K = K := by rfl) : OR X K .NotIn (rInDT K true) hNotIn := ⟨by have q := op_notInDT (X := X) (by have := hr.un; omega); rw [hK] at q; exact q, scl_notIn, osc_notIn⟩
theorem or_isN : OR X K .Is (fun x y H Q => y = .non ∧ Q (.bl (decide (x = .non))) H) hIs := ⟨op_isN, scl_is, osc_is⟩
theorem or_notN : OR X K .IsNot (fun x y H Q => y = .non ∧ Q (.bl (!decide (x = .non))) H) hIsNot := ⟨op_notN, scl_isNot, osc_isNot⟩
end
def gChain (h h' : Dt → Dt → O Dt) (ga gb gc : Gd) : Gd := fun ρ => bnd (ga ρ) fun x => bnd (gb ρ) fun y => bnd (h x y) fun z => bnd (asB z) fun c => if c then bnd (gc ρ) fun w => h' y w else .ok (.bool false)
section
variable {K : PySem.W.Frag} {W : Wt} {Δ : List Kd} {ta tb tc : TE} {ga gb gc : Gd} {av fr av' fr' av2 fr2 : Bool}
theorem se_chain {r r' : R2} {h h' : Dt → Dt → O Dt} (hs : Scl2 h) (ho : OSc K r h) (hs' : Scl2 h') (ho' : OSc K r' h') (ha : SE K W Δ ta (.v av fr) ga) (hb : SE K W Δ tb (.v av' fr') gb) (hc : SE K W Δ tc (.v av2 fr2) gc) :
    SE K W Δ (tChain r r' ta tb tc) (.v true true) (gChain h h' ga gb gc) := fun f ρ σ H Q R q => by
  refine ha f ρ σ H _ R ?_
  unfold gChain at q
  cases e1 : ga ρ with
  | bad => rw [e1] at q; exact q
  | ex z => rw [e1] at q; exact q
  | ok d =>
    rw [e1, bnd_ok] at q
    intro v H1 s1 x1
    refine hb f ρ σ H1 _ (R.mono s1) ?_
    cases e2 : gb ρ with
    | bad => rw [e2] at q; exact q
    | ex z => rw [e2] at q; exact fun H' s => q H' (s1.trans s)
    | ok d2 =>
      rw [e2, bnd_ok] at q
      intro v2 H2 s2 x2
      refine ho H2 v v2 d d2 _ ((x1.same s2).weak fun _ _ => trivial) (x2.weak fun _ _ => trivial) ?_
      rcases hs d d2 with ⟨z, ez, sz⟩ | ez
      · rw [ez] at q ⊢
        rw [bnd_ok] at q
        refine ⟨sz, fun w x => ?_⟩
        cases x with
        | bl c =>
          refine ⟨c, rfl, ?_⟩
          cases c with
          | false =>
            show (if false = true then _ else _)
            rw [if_neg Bool.false_ne_true]
            exact q _ H2 (s1.trans s2) (.bl false)
          | true =>
            show (if true = true then _ else _)
            rw [if_pos rfl]
            have q : PoE K W f Δ σ H (.v true true) (bnd (gc ρ) fun w => h' d2 w) Q := q
            refine hc f ρ σ H2 _ ((R.mono s1).mono s2) ?_
            cases e3 : gc ρ with
            | bad => rw [e3] at q; exact q
            | ex z => rw [e3] at q; exact fun H' s => q H' ((s1.trans s2).trans s)
            | ok d3 =>
              rw [e3, bnd_ok] at q
              intro v3 H3 s3 x3
              refine ho' H3 v2 v3 d2 d3 Q ((x2.same s3).weak fun _ _ => trivial) (x3.weak fun _ _ => trivial) ?_
              rcases hs' d2 d3 with ⟨z, ez, sz⟩ | ez
              · rw [ez] at q ⊢
                exact ⟨sz, fun w x => q w H3 ((s1.trans s2).trans s3) (x.scl_any sz)⟩
              · rw [ez] at q
                exact q.elim
        | non => exact q.elim
        | int => exact q.elim
        | str => exact q.elim
        | lst => cases sz
        | fz => cases sz
        | tup => cases sz
        | dic => cases sz
      · rw [ez] at q
        exact q.elim
end
section
variable {X : Cx} {K : PySem.W.Frag} {W : Wt} {Δ Δ1 Δn Δb Δc : List Kd} {a b c e : Expr} {es : List Expr} {ta tb tc te : TE} {tA : TA} {ga gb gc g : Gd} {av fr av' fr' av2 fr2 : Bool} {L : Lk} {pos : Pos} {op op' : CmpOp} {r r' : R2} {h h' : Dt → Dt → O Dt} {t : TS} {g1 : Gs} {st : Stmt} {sts : List Stmt}
theorem x_cmp (o : OR X K op r h) (ha : PD X K W Δ a ta (.v av fr) ga) (hb : PD X K W Δ b tb (.v av' fr') gb) (hm : behindInMarks op b = false := by first | exact nobehind _ (by decide) (by decide) | rfl) : PD X K W Δ (.Compare a [op] [b] pos) (tOp r ta tb) (.v true true) (gOp h ga gb) := ⟨pe_cmpR o.ho ha.pe hb.pe hm, ha.hK, se_op o.scl o.osc ha.se hb.se⟩
theorem c_cmp (o : OR X K op r h) (ha : PD X K W Δ a ta (.v av fr) ga) (hb : PD X K W Δ b tb (.v av' fr') gb) (hm : behindInMarks op b = false := by first | exact nobehind _ (by decide) (by decide) | rfl) : TD X K W Δ (.Compare a [op] [b] pos) (tTest (tOp r ta tb)) (gTest (gOp h ga gb)) := ⟨pt_cmpR o.ho ha.pe hb.pe hm, ha.hK, st_test (se_op o.scl o.osc ha.se hb.se)⟩
theorem x_chain (o : OR X K op r h) (o' : OR X K op' r' h') (ha : PD X K W Δ a ta (.v av fr) ga) (hb : PD X K W Δ b tb (.v av' fr') gb) (hc : PD X K W Δ c tc (.v av2 fr2) gc) (hm : lastMarks [op, op'] [b, c] = false := by with_unfolding_all rfl) : PD X K W Δ (.Compare a [op, op'] [b, c] pos) (tChain r r' ta tb tc) (.v true true) (gChain h h' ga gb gc) :=
  ⟨pe_chain o.ho o'.ho ha.pe hb.pe hc.pe hm, ha.hK, se_chain o.scl o.osc o'.scl o'.osc ha.se hb.se hc.se⟩
theorem c_chain (o : OR X K op r h) (o' : OR X K op' r' h') (ha : PD X K W Δ a ta (.v av fr) ga) (hb : PD X K W Δ b tb (.v av' fr') gb) (hc : PD X K W Δ c tc (.v av2 fr2) gc) (hm : lastMarks [op, op'] [b, c] = false := by with_unfolding_all rfl) : TD X K W Δ (.Compare a [op, op'] [b, c] pos) (tTest (tChain r r' ta tb tc)) (gTest (gChain h h' ga gb gc)) :=
  ⟨pt_chain o.ho o'.ho ha.pe hb.pe hc.pe hm, ha.hK, st_test (se_chain o.scl o.osc o'.scl o'.osc ha.se hb.se hc.se)⟩

theorem SD.to (Δn' : List Kd) (h : SD X K W L Δ Δn Δb Δc st t g1) (l : leA Δn Δn' = true := by rfl) : SD X K W L Δ Δn' Δb Δc st t g1 := ⟨h.ps, h.hK, fun f ρ σ H E r q => h.ss f ρ σ H E r <| by
  cases e : g1 ρ with
  | bad => rw [e] at q; exact q
  | ex z => rw [e] at q; exact q
  | ok fl =>
    rw [e] at q
    cases fl with
    | nx ρ' => exact fun σ' H' r => q σ' H' (r.weak l)
    | rt d => exact q
    | bk ρ' => exact q
    | ct ρ' => exact q⟩
theorem SD.frm (Δ0 : List Kd) (h : SD X K W L Δ0 Δn Δb Δc st t g1) (l : leA Δ Δ0 = true := by rfl) : SD X K W L Δ Δn Δb Δc st t g1 := ⟨h.ps, h.hK, h.ss.pre l⟩
theorem BD.to (Δn' : List Kd) (h : BD X K W L Δ Δn Δb Δc sts t g1) (l : leA Δn Δn' = true := by rfl) : BD X K W L Δ Δn' Δb Δc sts t g1 := ⟨h.ps, h.hK, fun f ρ σ H E r q => h.ss f ρ σ H E r <| by
  cases e : g1 ρ with
  | bad => rw [e] at q; exact q
  | ex z => rw [e] at q; exact q
  | ok fl =>
    rw [e] at q
    cases fl with
    | nx ρ' => exact fun σ' H' r => q σ' H' (r.weak l)
    | rt d => exact q
    | bk ρ' => exact q
    | ct ρ' => exact q⟩
theorem BD.frm (Δ0 : List Kd) (h : BD X K W L Δ0 Δn Δb Δc sts t g1) (l : leA Δ Δ0 = true := by rfl) : BD X K W L Δ Δn Δb Δc sts t g1 := ⟨h.ps, h.hK, h.ss.pre l⟩
def gBrk : Gs := fun ρ => .ok (.bk ρ)
def gCnt : Gs := fun ρ => .ok (.ct ρ)
theorem z_brk (hK : X.K = K := by rfl) : SD X K W L Δ Δn Δ Δc (.Break pos) tBreak gBrk := ⟨ps_break, hK, s_brk⟩
theorem z_cont (hK : X.K = K := by rfl) : SD X K W L Δ Δn Δb Δ (.Continue pos) tCont gCnt := ⟨ps_continue, hK, s_cont⟩
end
section
variable {X : Cx} {K : PySem.W.Frag} {W : Wt} {Δ : List Kd} {e : Expr} {te : TE} {g : Gd} {c : Ct} {fr fr' : Bool}
theorem SE.wkN (h : SE K W Δ te (.new c fr) g) (h2 : fr' = true → fr = true) : SE K W Δ te (.new c fr') g := fun f ρ σ H Q r q =>
  h f ρ σ H Q r <| by
    cases e : g ρ with
    | bad => rw [e] at q; exact q
    | ex z => rw [e] at q; exact q
    | ok d => rw [e] at q; exact fun p H' np s x => q p H' np s (x.map (fun _ e => e) fun _ _ y => y.weak fun a fa => ⟨fa.1.weak id h2, fa.2⟩)
theorem PD.wkN (fr' : Bool) (h : PD X K W Δ e te (.new c fr) g) (h2 : fr' = true → fr = true := by decide) : PD X K W Δ e te (.new c fr') g := ⟨h.pe, h.hK, SE.wkN h.se h2⟩
theorem AD.to {es : List Expr} {tA : TA} {av fr : Bool} {gA : List Dt → O (List Dt)} (av' fr' : Bool) (h : AD X K W Δ es tA av fr gA) (h1 : av' = true → av = true := by decide) (h2 : fr' = true → fr = true := by decide) : AD X K W Δ es tA av' fr' gA := h.wk h1 h2
theorem blk_fx {N : List Str} {sc scope : Scope} {own : List (Str × Nat)} (h : blkC N sc scope own = true) (e1 : X.N = N := by rfl) (e2 : X.env.scope = sc := by rfl) : blkC X.N X.env.scope scope own = true := by
  rw [e1, e2]
  exact h
end
/-! ### a law's end: what it gives does not hang on the names -/
def spLaw (K : PySem.W.Frag) (g : List Dt → O Dt) : Sp := fun vs H Q _ => ∃ ds, vs.length = 1 ∧ RpA K (fun _ => True) H vs ds ∧ g ds = .ok (.bool true) ∧ ∀ H', Q (.bl true) H'
theorem spLaw_of {K : PySem.W.Frag} {H : Hp} {a : Addr} {ns : List Int} {g : List Dt → O Dt} (hS : SqL K H a (ns.map V.int)) (h : g [.list (ns.map .int)] = .ok (.bool true)) : spLaw K g [.ref a] H (fun v _ => v = .bl true) fun _ _ _ => False := by
  refine ⟨_, rfl, .cons ?_ .nil, h, fun _ => rfl⟩
  rcases hS with (h | ⟨o, h⟩) | h
  · exact .lst h trivial (rpA_ints ns)
  · exact .fz (.inl ⟨o, h⟩) (rpA_ints ns)
  · exact .fz (.inr h) (rpA_ints ns)
theorem okLaw_of {P : Program} {w : World} {K : PySem.W.Frag} {mg : Str → Option Value} {CX : CXT} {k : Nat} {fa : Addr} {g : List Dt → O Dt}
    (h : ∃ fd : FuncData, (∀ (s : Shared) (v : Value), BindsTo s fd ⟨[v], []⟩ [("script", v)]) ∧ ∀ base : Heap, K.In base → base.Ns mainGlobals mg → FnOk P w K mg base CX k fa fd ["script"] (spG K mg 1 g)) :
    ∃ fd : FuncData, (∀ (s : Shared) (v : Value), BindsTo s fd ⟨[v], []⟩ [("script", v)]) ∧ ∀ base : Heap, K.In base → base.Ns mainGlobals mg → FnOk P w K mg base CX k fa fd ["script"] (spLaw K g) := by
  obtain ⟨fd, h1, h2⟩ := h
  have key : ∀ vs H Q E, spLaw K g vs H Q E → spG K mg 1 g vs H Q E := fun vs H Q E ⟨ds, a, b, c, d⟩ => ⟨ds, a, b, by
    rw [c]
    intro v H' s x
    cases x
    exact d H'⟩
  refine ⟨fd, h1, fun base a b => ?_⟩
  obtain ⟨len, run⟩ := h2 base a b
  exact ⟨fun vs H Q E x => len vs H Q E (key vs H Q E x), fun A outer s H args us vs Q E hr e0 hb r x => run A outer s H args us vs Q E hr e0 hb r (key vs H Q E x)⟩
end Sim
end T_SimH

section T_SimP
set_option Elab.async false
set_option linter.all false
set_option maxRecDepth 100000
/-! SimP: plain lemmas about the closures. -/
namespace Sim
open PySem

/-! ### steps -/
theorem gVar_def (i : Nat) (ρ : List Dt) : gVar i ρ = match ρ[i]? with | some d => .ok d | none => .bad := rfl
theorem gC_def (d : Dt) (ρ : List Dt) : gC d ρ = .ok d := rfl
theorem gOp_def (h : Dt → Dt → O Dt) (a b : Gd) (ρ : List Dt) : gOp h a b ρ = bnd (a ρ) fun x => bnd (b ρ) fun y => h x y := rfl
theorem gUn_def (h : Dt → O Dt) (a : Gd) (ρ : List Dt) : gUn h a ρ = bnd (a ρ) h := rfl
theorem gNil_def (ρ : List Dt) : gNil ρ = .ok [] := rfl
theorem gCons_def (a : Gd) (b : List Dt → O (List Dt)) (ρ : List Dt) : gCons a b ρ = bnd (a ρ) fun x => bnd (b ρ) fun xs => .ok (x :: xs) := rfl
theorem gTup_ok {a : List Dt → O (List Dt)} {ρ : List Dt} {xs : List Dt} (h : a ρ = .ok xs) (hl : xs.length ≤ 100000) : gTup a ρ = .ok (.tuple xs) := by unfold gTup; rw [h, bnd_ok, if_pos hl]
theorem gTup_def (a : List Dt → O (List Dt)) (ρ : List Dt) : gTup a ρ = bnd (a ρ) fun xs => if xs.length ≤ 100000 then .ok (.tuple xs) else .bad := rfl
theorem gLst_def (a : List Dt → O (List Dt)) (ρ : List Dt) : gLst a ρ = bnd (a ρ) fun xs => if xs.length ≤ 100000 then .ok (.list xs) else .bad := rfl
theorem gIf_def (t : List Dt → O Bool) (a b : Gd) (ρ : List Dt) : gIf t a b ρ = bnd (t ρ) fun c => if c then a ρ else b ρ := rfl
theorem gTest_def (a : Gd) (ρ : List Dt) : gTest a ρ = bnd (a ρ) asB := rfl
theorem gNot_def (t : List Dt → O Bool) (ρ : List Dt) : gNot t ρ = bnd (t ρ) fun b => .ok (!b) := rfl
theorem gAnd_def (t u : List Dt → O Bool) (ρ : List Dt) : gAnd t u ρ = bnd (t ρ) fun b => if b then u ρ else .ok false := rfl
theorem gOr_def (t u : List Dt → O Bool) (ρ : List Dt) : gOr t u ρ = bnd (t ρ) fun b => if b then .ok true else u ρ := rfl
theorem gAndV_def (a b : Gd) (ρ : List Dt) : gAndV a b ρ = bnd (a ρ) fun x => bnd (asB x) fun c => if c then b ρ else .ok (.bool false) := rfl
theorem gOrV_def (a b : Gd) (ρ : List Dt) : gOrV a b ρ = bnd (a ρ) fun x => bnd (asB x) fun c => if c then .ok (.bool true) else b ρ := rfl
theorem gNotV_def (a : Gd) (ρ : List Dt) : gNotV a ρ = bnd (a ρ) fun x => bnd (asB x) fun c => .ok (.bool (!c)) := rfl
theorem gCB_def (h : List Dt → O Dt) (a : List Dt → O (List Dt)) (ρ : List Dt) : gCB h a ρ = bnd (a ρ) h := rfl
theorem gPur_def (a : Gd) (ρ : List Dt) : gPur a ρ = bnd (a ρ) fun d => if pure1 d then .ok d else .bad := rfl
theorem gPurN_def (a : Gd) (ρ : List Dt) : gPurN a ρ = bnd (a ρ) fun d => if pureIn d then .ok d else .bad := rfl
theorem gPurV_def (i : Nat) (ρ : List Dt) : gPurV i ρ = gPurN (gVar i) ρ := rfl
theorem asB_b (b : Bool) : asB (.bool b) = .ok b := rfl
theorem hAdd_i (i j : Int) : hAdd (.int i) (.int j) = .ok (.int (i + j)) := rfl
theorem hSub_i (i j : Int) : hSub (.int i) (.int j) = .ok (.int (i - j)) := rfl
theorem hLt_i (i j : Int) : hLt (.int i) (.int j) = .ok (.bool (decide (i < j))) := rfl
theorem hLe_i (i j : Int) : hLe (.int i) (.int j) = .ok (.bool (decide (i ≤ j))) := rfl
theorem hGt_i (i j : Int) : hGt (.int i) (.int j) = .ok (.bool (decide (j < i))) := rfl
theorem hGe_i (i j : Int) : hGe (.int i) (.int j) = .ok (.bool (decide (j ≤ i))) := rfl
theorem hBand_i (i j : Int) : hBand (.int i) (.int j) = .ok (.int (Builtin.bitAnd i j)) := rfl
theorem hMul_r {i j : Int} (h1 : -18446744073709551616 < j) (h2 : j < 18446744073709551616) : hMul (.int i) (.int j) = .ok (.int (i * j)) := by
  show (if cMul i j then O.ok (PyData.int (i * j)) else .bad) = _
  rw [if_pos]
  unfold cMul
  rw [Bool.or_eq_true, decide_eq_true_eq, decide_eq_true_eq]
  right; omega
theorem hMul_l {i j : Int} (h1 : -18446744073709551616 < i) (h2 : i < 18446744073709551616) : hMul (.int i) (.int j) = .ok (.int (i * j)) := by
  show (if cMul i j then O.ok (PyData.int (i * j)) else .bad) = _
  rw [if_pos]
  unfold cMul
  rw [Bool.or_eq_true, decide_eq_true_eq, decide_eq_true_eq]
  left; omega
theorem hMod_i {i j : Int} (h : 0 < j) : hMod (.int i) (.int j) = .ok (.int (i % j)) := by
  show (if cMod i j then O.ok (PyData.int (i % j)) else .bad) = _
  rw [if_pos]
  unfold cMod
  exact decide_eq_true h
theorem hDiv_i {i j : Int} (h : 0 < j) (h2 : j.natAbs < 2 ^ 400) : hDiv (.int i) (.int j) = .ok (.int (i / j)) := by
  show (if cDiv i j then O.ok (PyData.int (i / j)) else .bad) = _
  rw [if_pos]
  unfold cDiv
  rw [Bool.and_eq_true]
  exact ⟨decide_eq_true h, decide_eq_true h2⟩
theorem hDiv_s {i j : Int} (h : 0 < j) (h2 : j < 1000000000000000000000000000000000) : hDiv (.int i) (.int j) = .ok (.int (i / j)) := hDiv_i h (by omega)
theorem hShr_i {i j : Int} (h : 0 ≤ j) : hShr (.int i) (.int j) = .ok (.int (i / 2 ^ j.toNat)) := by
  show (if cShr i j then O.ok (PyData.int (i / 2 ^ j.toNat)) else .bad) = _
  rw [if_pos]
  exact decide_eq_true h
theorem hPow_10_18 : hPow (.int 10) (.int 18) = .ok (.int 1000000000000000000) := by
  show (if cPow 10 18 then O.ok (PyData.int ((10 : Int) ^ (18 : Int).toNat)) else .bad) = _
  rw [if_pos (by decide)]
  rfl
theorem hPow_10_27 : hPow (.int 10) (.int 27) = .ok (.int 1000000000000000000000000000) := by
  show (if cPow 10 27 then O.ok (PyData.int ((10 : Int) ^ (27 : Int).toNat)) else .bad) = _
  rw [if_pos (by decide)]
  rfl
theorem hPow_10_28 : hPow (.int 10) (.int 28) = .ok (.int 10000000000000000000000000000) := by
  show (if cPow 10 28 then O.ok (PyData.int ((10 : Int) ^ (28 : Int).toNat)) else .bad) = _
  rw [if_pos (by decide)]
  rfl
theorem hPow_10_29 : hPow (.int 10) (.int 29) = .ok (.int 100000000000000000000000000000) := by
  show (if cPow 10 29 then O.ok (PyData.int ((10 : Int) ^ (29 : Int).toNat)) else .bad) = _
  rw [if_pos (by decide)]
  rfl
theorem hPow_10_30 : hPow (.int 10) (.int 30) = .ok (.int 1000000000000000000000000000000) := by
  show (if cPow 10 30 then O.ok (PyData.int ((10 : Int) ^ (30 : Int).toNat)) else .bad) = _
  rw [if_pos (by decide)]
  rfl
theorem shaped_int (i : Int) : SeqAt.shaped (.int i) = true := by simp [SeqAt.shaped, PyData.canLay0, PyData.depth]
theorem shaped_bool (i : Bool) : SeqAt.shaped (.bool i) = true := by simp [SeqAt.shaped, PyData.canLay0, PyData.depth]
theorem shaped_none : SeqAt.shaped .none = true := by simp [SeqAt.shaped, PyData.canLay0, PyData.depth]
theorem hEq_i (i j : Int) : hEq (.int i) (.int j) = .ok (.bool (i == j)) := by unfold hEq; rw [shaped_int, shaped_int]; simp [PyData.eqv]
theorem hNe_i (i j : Int) : hNe (.int i) (.int j) = .ok (.bool (!(i == j))) := by unfold hNe; rw [shaped_int, shaped_int]; simp [PyData.eqv]
theorem hEq_b (i j : Bool) : hEq (.bool i) (.bool j) = .ok (.bool (i == j)) := by unfold hEq; rw [shaped_bool, shaped_bool]; simp [PyData.eqv]
theorem hNe_b (i j : Bool) : hNe (.bool i) (.bool j) = .ok (.bool (!(i == j))) := by unfold hNe; rw [shaped_bool, shaped_bool]; simp [PyData.eqv]
theorem hLen_l (xs : List Dt) : hLen [.list xs] = .ok (.int xs.length) := rfl
theorem hLen_t (xs : List Dt) : hLen [.tuple xs] = .ok (.int xs.length) := rfl
theorem hMin2_i (i j : Int) : hMin2 [.int i, .int j] = .ok (.int (if j < i then j else i)) := rfl
theorem hMax2_i (i j : Int) : hMax2 [.int i, .int j] = .ok (.int (if j > i then j else i)) := rfl
theorem hMin3_i (i j k : Int) : hMin3 [.int i, .int j, .int k] = .ok (.int (if j < i then (if k < j then k else j) else (if k < i then k else i))) := rfl
theorem hInt1_b (k : Bool) : hInt1 [.bool k] = .ok (.int (if k then 1 else 0)) := rfl
theorem hInt1_i (k : Int) : hInt1 [.int k] = .ok (.int k) := rfl
theorem hBits_i (i : Int) : hBits (.int i) = .ok (.int (Builtin.Int.intBits i : Nat)) := rfl
theorem hListOf_l (xs : List Dt) : one hListOf [.list xs] = .ok (.list xs) := rfl
theorem hListOf_t (xs : List Dt) : one hListOf [.tuple xs] = .ok (.list xs) := rfl
theorem hTupOf_l (xs : List Dt) : one hTupOf [.list xs] = .ok (.tuple xs) := rfl
theorem hTupOf_t (xs : List Dt) : one hTupOf [.tuple xs] = .ok (.tuple xs) := rfl

/-! ### statements -/
theorem seq_nx {a b : Gs} {ρ ρ' : List Dt} (h : a ρ = .ok (.nx ρ')) : gSeqS a b ρ = b ρ' := by unfold gSeqS; rw [h]
theorem seq_rt {a b : Gs} {ρ : List Dt} {d : Dt} (h : a ρ = .ok (.rt d)) : gSeqS a b ρ = .ok (.rt d) := by unfold gSeqS; rw [h]
theorem set_ok {i : Nat} {g : Gd} {ρ : List Dt} {d : Dt} (h : g ρ = .ok d) : gSet i g ρ = .ok (.nx (ρ.set i d)) := by unfold gSet; rw [h]; rfl
theorem ret_ok {g : Gd} {ρ : List Dt} {d : Dt} (h : g ρ = .ok d) : gRet g ρ = .ok (.rt d) := by unfold gRet; rw [h]; rfl
theorem if_t {t : List Dt → O Bool} {a b : Gs} {ρ : List Dt} (h : t ρ = .ok true) : gIfS t a b ρ = a ρ := by unfold gIfS; rw [h]; rfl
theorem if_f {t : List Dt → O Bool} {a b : Gs} {ρ : List Dt} (h : t ρ = .ok false) : gIfS t a b ρ = b ρ := by unfold gIfS; rw [h]; rfl
theorem gSeqS_def (a b : Gs) (ρ : List Dt) : gSeqS a b ρ = match a ρ with | .ok (.nx ρ') => b ρ' | o => o := rfl
theorem gSet_def (i : Nat) (g : Gd) (ρ : List Dt) : gSet i g ρ = bnd (g ρ) fun d => .ok (.nx (ρ.set i d)) := rfl
theorem gRet_def (g : Gd) (ρ : List Dt) : gRet g ρ = bnd (g ρ) fun d => .ok (.rt d) := rfl
theorem gIfS_def (t : List Dt → O Bool) (a b : Gs) (ρ : List Dt) : gIfS t a b ρ = bnd (t ρ) fun c => if c then a ρ else b ρ := rfl
theorem gNext_def (ρ : List Dt) : gNext ρ = .ok (.nx ρ) := rfl
theorem gApp_l {i : Nat} {g : Gd} {ρ : List Dt} {ds : List Dt} {d : Dt} (h1 : ρ[i]? = some (.list ds)) (h2 : g ρ = .ok d) (h3 : ds.length < 100000) : gApp i g ρ = .ok (.nx (ρ.set i (.list (ds ++ [d])))) := by
  unfold gApp
  rw [h1]
  simp only [h2, bnd_ok]
  rw [if_pos h3]
theorem gExt_l {i : Nat} {g : Gd} {ρ : List Dt} {ds es : List Dt} (h1 : ρ[i]? = some (.list ds)) (h2 : g ρ = .ok (.list es)) (h3 : ds.length + es.length ≤ 100000) : gExt i g ρ = .ok (.nx (ρ.set i (.list (ds ++ es)))) := by
  unfold gExt
  rw [h1]
  simp only [h2, bnd_ok]
  rw [if_pos h3]
theorem callN_ok {n : Nat} {g : List Dt → O Dt} {gA : List Dt → O (List Dt)} {ρ ds : List Dt} {d : Dt} (h1 : gA ρ = .ok ds) (h2 : ds.length = n) (h3 : g ds = .ok d) : gCallN n g gA ρ = .ok d := by
  unfold gCallN
  rw [h1, bnd_ok, if_pos h2, h3]
theorem asg_ok {g : Gd} {h : Dt → List Dt → O (List Dt)} {ρ ρ' : List Dt} {d : Dt} (h1 : g ρ = .ok d) (h2 : h d ρ = .ok ρ') : gAsg g h ρ = .ok (.nx ρ') := by
  unfold gAsg
  rw [h1, bnd_ok, h2]
theorem fnN_rt {m : Nat} {g : Gs} {ds : List Dt} {d : Dt} (h : g (ds ++ List.replicate (m - ds.length) .none) = .ok (.rt d)) : fnN m g ds = .ok d := by unfold fnN; rw [h]
theorem fnL_rt {m : Nat} {g : Gs} {ds : List Dt} {d : Dt} (h : g (ds ++ List.replicate (m - ds.length) .none) = .ok (.rt d)) : fnL m g ds = .ok d := by unfold fnL; rw [h]

/-! ### walks and comprehensions -/
theorem lcE_map {α : Type} (enc : α → Dt) (p : α → Bool) (q : α → Dt) {h : Dt → List Dt → O (List Dt)} {gt : List Dt → O Bool} {ge : Gd} {ρ : List Dt} : ∀ (xs : List α), (∀ x ∈ xs, ∃ ρ', h (enc x) ρ = .ok ρ' ∧ gt ρ' = .ok (p x) ∧ (p x = true → ge ρ' = .ok (q x))) →
    lcE h gt ge ρ (xs.map enc) = .ok ((xs.filter p).map q)
  | [], _ => rfl
  | x :: xs, H => by
    obtain ⟨ρ', h1, h2, h3⟩ := H x List.mem_cons_self
    have ih := lcE_map enc p q xs fun y hy => H y (List.mem_cons_of_mem _ hy)
    rw [List.map_cons]
    unfold lcE
    rw [h1, bnd_ok, h2, bnd_ok]
    cases hp : p x with
    | true => rw [if_pos rfl, h3 hp, bnd_ok, ih, bnd_ok, List.filter_cons_of_pos hp, List.map_cons]
    | false => rw [if_neg Bool.false_ne_true, ih, List.filter_cons_of_neg (by rw [hp]; exact Bool.false_ne_true)]
theorem gLc_map {α : Type} (enc : α → Dt) (p : α → Bool) (q : α → Dt) {gi : List Dt → O (List Dt)} {h : Dt → List Dt → O (List Dt)} {gt : List Dt → O Bool} {ge : Gd} {ρ : List Dt} {xs : List α} (h1 : gi ρ = .ok (xs.map enc)) (h2 : xs.length ≤ 100000)
    (H : ∀ x ∈ xs, ∃ ρ', h (enc x) ρ = .ok ρ' ∧ gt ρ' = .ok (p x) ∧ (p x = true → ge ρ' = .ok (q x))) : gLc gi h gt ge ρ = .ok (.list ((xs.filter p).map q)) := by
  unfold gLc
  rw [h1, bnd_ok, if_pos (by rw [List.length_map]; exact h2), lcE_map enc p q xs H]
/-- a for whose turns go on: the state is a fold -/
theorem forE_fold {α β : Type} (enc : α → Dt) (st : β → List Dt) (step : β → α → β) {h : Dt → List Dt → O (List Dt)} {b : Gs} (I : List α → β → Prop) : ∀ (xs : List α) (pre : List α) (s : β), I pre s →
    (∀ pre x s, x ∈ xs → I pre s → (∃ ρ1, h (enc x) (st s) = .ok ρ1 ∧ (b ρ1 = .ok (.nx (st (step s x))) ∨ b ρ1 = .ok (.ct (st (step s x))))) ∧ I (pre ++ [x]) (step s x)) →
    forE h b (xs.map enc) (st s) = .ok (.nx (st (xs.foldl step s))) ∧ I (pre ++ xs) (xs.foldl step s)
  | [], pre, s, hi, _ => ⟨rfl, by rw [List.append_nil]; exact hi⟩
  | x :: xs, pre, s, hi, H => by
    obtain ⟨⟨ρ1, h1, h2⟩, h3⟩ := H pre x s List.mem_cons_self hi
    have ih := forE_fold enc st step I xs (pre ++ [x]) (step s x) h3 fun pre y s hy hi => H pre y s (List.mem_cons_of_mem _ hy) hi
    rw [List.append_assoc] at ih
    refine ⟨?_, ih.2⟩
    rw [List.map_cons]
    unfold forE
    rw [h1]
    simp only
    rcases h2 with h2 | h2
    · rw [h2, bnd_ok]; exact ih.1
    · rw [h2, bnd_ok]; exact ih.1
/-- a for by an invariant over the states themselves -/
theorem forE_inv {α : Type} (enc : α → Dt) {h : Dt → List Dt → O (List Dt)} {b : Gs} (I : List α → List Dt → Prop) : ∀ (xs : List α) (pre : List α) (ρ : List Dt), I pre ρ →
    (∀ pre x ρ, x ∈ xs → I pre ρ → ∃ ρ1 ρ2, h (enc x) ρ = .ok ρ1 ∧ (b ρ1 = .ok (.nx ρ2) ∨ b ρ1 = .ok (.ct ρ2)) ∧ I (pre ++ [x]) ρ2) →
    ∃ ρ', forE h b (xs.map enc) ρ = .ok (.nx ρ') ∧ I (pre ++ xs) ρ'
  | [], pre, ρ, hi, _ => ⟨ρ, rfl, by rw [List.append_nil]; exact hi⟩
  | x :: xs, pre, ρ, hi, H => by
    obtain ⟨ρ1, ρ2, h1, h2, h3⟩ := H pre x ρ List.mem_cons_self hi
    obtain ⟨ρ', ih1, ih2⟩ := forE_inv enc I xs (pre ++ [x]) ρ2 h3 fun pre y s hy hi => H pre y s (List.mem_cons_of_mem _ hy) hi
    rw [List.append_assoc] at ih2
    refine ⟨ρ', ?_, ih2⟩
    rw [List.map_cons]
    unfold forE
    rw [h1]
    simp only
    rcases h2 with h2 | h2
    · rw [h2, bnd_ok]; exact ih1
    · rw [h2, bnd_ok]; exact ih1
/-- a for by an invariant over the turn's number -/
theorem forE_ix {α : Type} (enc : α → Dt) {h : Dt → List Dt → O (List Dt)} {b : Gs} (xs : List α) (I : Nat → List Dt → Prop) {ρ : List Dt} (h0 : I 0 ρ)
    (H : ∀ i ρ (hi : i < xs.length), I i ρ → ∃ ρ1 ρ2, h (enc xs[i]) ρ = .ok ρ1 ∧ (b ρ1 = .ok (.nx ρ2) ∨ b ρ1 = .ok (.ct ρ2)) ∧ I (i + 1) ρ2) :
    ∃ ρ', forE h b (xs.map enc) ρ = .ok (.nx ρ') ∧ I xs.length ρ' := by
  have key : ∀ n i ρ, i + n = xs.length → I i ρ → ∃ ρ', forE h b ((xs.drop i).map enc) ρ = .ok (.nx ρ') ∧ I xs.length ρ' := by
    intro n
    induction n with
    | zero =>
      intro i ρ e hi
      have e : i = xs.length := by omega
      subst e
      rw [List.drop_length]
      exact ⟨ρ, rfl, hi⟩
    | succ n ih =>
      intro i ρ e hi
      have hlt : i < xs.length := by omega
      obtain ⟨ρ1, ρ2, h1, h2, h3⟩ := H i ρ hlt hi
      obtain ⟨ρ', q1, q2⟩ := ih (i + 1) ρ2 (by omega) h3
      refine ⟨ρ', ?_, q2⟩
      rw [List.drop_eq_getElem_cons hlt, List.map_cons]
      unfold forE
      rw [h1]
      simp only
      rcases h2 with h2 | h2
      · rw [h2, bnd_ok]; exact q1
      · rw [h2, bnd_ok]; exact q1
  have := key xs.length 0 ρ (by omega) h0
  rwa [List.drop_zero] at this
theorem for_ok {gi : List Dt → O (List Dt)} {h : Dt → List Dt → O (List Dt)} {b : Gs} {ρ : List Dt} {ds : List Dt} {z : O Fl} (h1 : gi ρ = .ok ds) (h2 : forE h b ds ρ = z) : gFor gi h b ρ = z := by unfold gFor; rw [h1, bnd_ok, h2]
theorem while_f {t : List Dt → O Bool} {b : Gs} {n : Nat} {ρ : List Dt} (h : t ρ = .ok false) (hn : n ≠ 0 := by decide) : gWhile t b n ρ = .ok (.nx ρ) := by
  cases n with
  | zero => exact absurd rfl hn
  | succ n => unfold gWhile; rw [h]; rfl
theorem while_t {t : List Dt → O Bool} {b : Gs} {n : Nat} {ρ ρ' : List Dt} (h : t ρ = .ok true) (h2 : b ρ = .ok (.nx ρ')) : gWhile t b (n + 1) ρ = gWhile t b n ρ' := by
  conv => lhs; unfold gWhile
  simp only [h, bnd_ok, if_true, h2]
theorem rng1_ok {g : List Dt → O (List Dt)} {ρ : List Dt} {j : Int} (h : g ρ = .ok [.int j]) (h1 : -4611686018427387904 ≤ j) (h2 : j < 4611686018427387904) : gRng1 g ρ = .ok (rangeD 0 j) := by
  unfold gRng1
  rw [h, bnd_ok]
  unfold rng1
  simp only
  rw [if_pos (by constructor <;> omega)]
theorem rng2_ok {g : List Dt → O (List Dt)} {ρ : List Dt} {i j : Int} (h : g ρ = .ok [.int i, .int j]) (h1 : -4611686018427387904 ≤ j) (h2 : j < 4611686018427387904) (h3 : -4611686018427387904 ≤ i) (h4 : i < 4611686018427387904) : gRng2 g ρ = .ok (rangeD i j) := by
  unfold gRng2
  rw [h, bnd_ok]
  unfold rng2
  simp only
  rw [if_pos (by refine ⟨?_, ?_, ?_, ?_⟩ <;> omega)]
theorem rangeD_nat (n : Nat) : rangeD 0 (n : Int) = (List.range n).map fun (i : Nat) => PyData.int (i : Int) := by
  unfold rangeD
  rw [Int.sub_zero, Int.toNat_natCast]
  apply List.map_congr_left
  intro i _
  rw [Int.zero_add]
theorem seqG_l {g : Gd} {ρ : List Dt} {ds : List Dt} (h : g ρ = .ok (.list ds)) : gSeq g ρ = .ok ds := by unfold gSeq; rw [h]; rfl
theorem seqG_t {g : Gd} {ρ : List Dt} {ds : List Dt} (h : g ρ = .ok (.tuple ds)) : gSeq g ρ = .ok ds := by unfold gSeq; rw [h]; rfl

/-! ### lists of ints -/
abbrev dI (i : Int) : Dt := .int i
abbrev dIs (xs : List Int) : Dt := .list (xs.map .int)
theorem allI_map : ∀ xs : List Int, allI (xs.map .int) = some xs
  | [] => rfl
  | x :: xs => by rw [List.map_cons]; unfold allI; rw [allI_map xs]; rfl
theorem allB_map : ∀ xs : List Bool, allB (xs.map .bool) = some xs
  | [] => rfl
  | x :: xs => by rw [List.map_cons]; unfold allB; rw [allB_map xs]; rfl
theorem canLay_ints : ∀ xs : List Int, PyData.canLayAll0 (xs.map .int) = true
  | [] => by simp [PyData.canLayAll0]
  | x :: xs => by simp [PyData.canLayAll0, PyData.canLay0, canLay_ints xs]
theorem depth_ints : ∀ xs : List Int, PyData.depthAll (xs.map .int) = 0
  | [] => by simp [PyData.depthAll]
  | x :: xs => by simp [PyData.depthAll, PyData.depth, depth_ints xs]
theorem shaped_ints (xs : List Int) : SeqAt.shaped (.list (xs.map .int)) = true := by simp [SeqAt.shaped, PyData.canLay0, PyData.depth, canLay_ints, depth_ints]
theorem shaped_intsT (xs : List Int) : SeqAt.shaped (.tuple (xs.map .int)) = true := by simp [SeqAt.shaped, PyData.canLay0, PyData.depth, canLay_ints, depth_ints]
theorem eqvAll_ints : ∀ xs ys : List Int, PyData.eqvAll (xs.map .int) (ys.map .int) = decide (xs = ys)
  | [], [] => by simp [PyData.eqvAll]
  | [], _ :: _ => by simp [PyData.eqvAll]
  | _ :: _, [] => by simp [PyData.eqvAll]
  | x :: xs, y :: ys => by
    simp only [List.map_cons, PyData.eqvAll, PyData.eqv, eqvAll_ints xs ys]
    by_cases h1 : x = y <;> by_cases h2 : xs = ys <;> simp [h1, h2]
theorem hEq_ints (xs ys : List Int) : hEq (.list (xs.map .int)) (.list (ys.map .int)) = .ok (.bool (decide (xs = ys))) := by
  unfold hEq; rw [shaped_ints, shaped_ints]; simp only [PyData.eqv, eqvAll_ints, Bool.and_self, if_true]
theorem hNe_ints (xs ys : List Int) : hNe (.list (xs.map .int)) (.list (ys.map .int)) = .ok (.bool (!decide (xs = ys))) := by
  unfold hNe; rw [shaped_ints, shaped_ints]; simp only [PyData.eqv, eqvAll_ints, Bool.and_self, if_true]
theorem any_ints (i : Int) : ∀ xs : List Int, ((xs.map PyData.int).any fun z => PyData.eqv z (.int i)) = decide (i ∈ xs)
  | [] => by simp
  | x :: xs => by
    rw [List.map_cons, List.any_cons, any_ints i xs]
    simp only [PyData.eqv, List.mem_cons]
    by_cases h : x = i
    · subst h; simp
    · have h' : ¬ i = x := fun e => h e.symm
      simp [h, h']
theorem hIn_ints (i : Int) (xs : List Int) : hIn (.int i) (.list (xs.map .int)) = .ok (.bool (decide (i ∈ xs))) := by
  unfold hIn; simp only [shaped_int, shaped_ints, Bool.and_self, if_true, any_ints]
theorem hNotIn_ints (i : Int) (xs : List Int) : hNotIn (.int i) (.list (xs.map .int)) = .ok (.bool (!decide (i ∈ xs))) := by
  unfold hNotIn; simp only [shaped_int, shaped_ints, Bool.and_self, if_true, any_ints]
theorem hIn_intsT (i : Int) (xs : List Int) : hIn (.int i) (.tuple (xs.map .int)) = .ok (.bool (decide (i ∈ xs))) := by
  unfold hIn; simp only [shaped_int, shaped_intsT, Bool.and_self, if_true, any_ints]
theorem hNotIn_intsT (i : Int) (xs : List Int) : hNotIn (.int i) (.tuple (xs.map .int)) = .ok (.bool (!decide (i ∈ xs))) := by
  unfold hNotIn; simp only [shaped_int, shaped_intsT, Bool.and_self, if_true, any_ints]
theorem hSorted_ints (xs : List Int) : one hSorted [.list (xs.map .int)] = .ok (.list ((isort xs).map .int)) := by
  unfold one hSorted; simp only [allI_map]
theorem pureA_ints : ∀ xs : List Int, pureA (xs.map .int) = true
  | [] => rfl
  | x :: xs => by rw [List.map_cons]; unfold pureA; rw [pureA_ints xs]; rfl
theorem atI_map {α β : Type} (f : α → β) {xs : List α} {i : Int} (h0 : 0 ≤ i) (h1 : i < xs.length) : L2.atI (xs.map f) i = some (f (xs[i.toNat]'(by omega))) := by
  obtain ⟨j, rfl⟩ : ∃ j : Nat, i = j := ⟨i.toNat, by omega⟩
  have hj : j < xs.length := by omega
  refine L2.atI_nat ?_
  rw [List.getElem?_map, List.getElem?_eq_getElem hj]
  rfl
theorem hIx_l {ds : List Dt} {i : Int} {z : Dt} (h : L2.atI ds i = some z) : hIx (.list ds) (.int i) = .ok z := by unfold hIx; simp only [h]
theorem hIx_t {ds : List Dt} {i : Int} {z : Dt} (h : L2.atI ds i = some z) : hIx (.tuple ds) (.int i) = .ok z := by unfold hIx; simp only [h]
theorem hIx_ints {xs : List Int} {i : Int} (h0 : 0 ≤ i) (h1 : i < xs.length) : hIx (.list (xs.map .int)) (.int i) = .ok (.int (xs[i.toNat]'(by omega))) := hIx_l (atI_map _ h0 h1)
theorem sIx_none (n d : Nat) : HT.sIx n d none = d := rfl
theorem cutD_from {α : Type} (f : α → Dt) (xs : List α) (k : Nat) : cutD (xs.map f) (some (k : Int)) none = (xs.drop k).map f := by
  unfold cutD
  rw [HT.sIx_nat, sIx_none, List.length_map]
  rcases Nat.lt_or_ge k xs.length with h | h
  · rw [Nat.min_eq_left (Nat.le_of_lt h), ← List.map_drop, List.take_of_length_le (by rw [List.length_map, List.length_drop]; omega)]
  · rw [Nat.min_eq_right h, List.drop_of_length_le (by rw [List.length_map]; omega), List.drop_of_length_le h]
    simp
theorem cutD_to {α : Type} (f : α → Dt) (xs : List α) (k : Nat) : cutD (xs.map f) none (some (k : Int)) = (xs.take k).map f := by
  unfold cutD
  rw [HT.sIx_nat, sIx_none, List.length_map, List.drop_zero, Nat.sub_zero, ← List.map_take]
  rcases Nat.lt_or_ge k xs.length with h | h
  · rw [Nat.min_eq_left (Nat.le_of_lt h)]
  · rw [Nat.min_eq_right h, List.take_of_length_le (Nat.le_refl _), List.take_of_length_le h]
theorem hSl_from {α : Type} (f : α → Dt) (xs : List α) (k : Nat) : hSl (.list (xs.map f)) (some (k : Int)) none = .ok (.list ((xs.drop k).map f)) := by unfold hSl; rw [← cutD_from]
theorem hSl_to {α : Type} (f : α → Dt) (xs : List α) (k : Nat) : hSl (.list (xs.map f)) none (some (k : Int)) = .ok (.list ((xs.take k).map f)) := by unfold hSl; rw [← cutD_to]
theorem hCat_l {xs ys : List Dt} (h : xs.length + ys.length ≤ 100000) : hCat (.list xs) (.list ys) = .ok (.list (xs ++ ys)) := by unfold hCat; simp only [h, if_true]
theorem hCat_map {α : Type} (f : α → Dt) (xs ys : List α) (h : xs.length + ys.length ≤ 100000) : hCat (.list (xs.map f)) (.list (ys.map f)) = .ok (.list ((xs ++ ys).map f)) := by
  rw [hCat_l (by rw [List.length_map, List.length_map]; exact h), List.map_append]
theorem hRep_l {xs : List Dt} {k : Int} (h0 : 0 ≤ k) (h1 : k < 100) (h : xs.length ≤ 1000) : hRep (.list xs) (.int k) = .ok (.list (List.replicate k.toNat xs).flatten) := by
  unfold hRep
  simp only
  rw [if_pos]
  refine ⟨by omega, by omega, ?_⟩
  have : xs.length * k.toNat ≤ 1000 * 100 := Nat.mul_le_mul h (by omega)
  omega

/-! ### sorting ints -/
theorem isort_eq {a b : List Int} (p : a.Perm b) : isort a = isort b := sorted_unique ((isort_perm a).trans (p.trans (isort_perm b).symm)) (isort_sorted a) (isort_sorted b)
theorem isort_id {a : List Int} (h : a.Pairwise (· ≤ ·)) : isort a = a := sorted_unique (isort_perm a) (isort_sorted a) h
theorem seq_step {a b : Gs} {ρ ρ' : List Dt} {z : O Fl} (h : a ρ = .ok (.nx ρ')) (k : b ρ' = z) : gSeqS a b ρ = z := by rw [seq_nx h]; exact k
theorem gCallN_def (n : Nat) (g : List Dt → O Dt) (gA : List Dt → O (List Dt)) (ρ : List Dt) : gCallN n g gA ρ = bnd (gA ρ) fun ds => if ds.length = n then (match g ds with | .ok d => .ok d | _ => .bad) else .bad := rfl
theorem gAsg_def (g : Gd) (h : Dt → List Dt → O (List Dt)) (ρ : List Dt) : gAsg g h ρ = bnd (g ρ) fun d => match h d ρ with | .ok ρ' => .ok (.nx ρ') | _ => .bad := rfl
theorem gSl_def (h : Dt → Option Int → Option Int → O Dt) (g : Gd) (gl gh : List Dt → O (Option Int)) (ρ : List Dt) : gSl h g gl gh ρ = bnd (g ρ) fun d => bnd (gl ρ) fun lo => bnd (gh ρ) fun hi => h d lo hi := rfl
theorem gNoPart_def (ρ : List Dt) : gNoPart ρ = .ok none := rfl
theorem gPart_def (g : Gd) (ρ : List Dt) : gPart g ρ = bnd (g ρ) fun d => match d with | .int i => .ok (some i) | _ => .bad := rfl
theorem hSl_from' {α : Type} (f : α → Dt) (xs : List α) {k : Int} (h : 0 ≤ k) : hSl (.list (xs.map f)) (some k) none = .ok (.list ((xs.drop k.toNat).map f)) := by
  have := hSl_from f xs k.toNat
  rwa [show ((k.toNat : Nat) : Int) = k by omega] at this
theorem hSl_to' {α : Type} (f : α → Dt) (xs : List α) {k : Int} (h : 0 ≤ k) : hSl (.list (xs.map f)) none (some k) = .ok (.list ((xs.take k.toNat).map f)) := by
  have := hSl_to f xs k.toNat
  rwa [show ((k.toNat : Nat) : Int) = k by omega] at this
/-- the places -/
def pl (n : Int) : List Int := (List.range n.toNat).map fun (i : Nat) => (i : Int)
theorem rangeD_pl (n : Int) : rangeD 0 n = (pl n).map .int := by
  unfold rangeD pl
  rw [List.map_map, Int.sub_zero]
  apply List.map_congr_left
  intro i _
  show PyData.int (0 + (i : Int)) = PyData.int (i : Int)
  rw [Int.zero_add]
theorem mem_pl {n p : Int} : p ∈ pl n ↔ 0 ≤ p ∧ p < n := by
  unfold pl
  rw [List.mem_map]
  constructor
  · rintro ⟨i, h, rfl⟩
    rw [List.mem_range] at h
    omega
  · rintro ⟨h1, h2⟩
    exact ⟨p.toNat, List.mem_range.mpr (by omega), by omega⟩
theorem pl_len (n : Int) : (pl n).length = n.toNat := by unfold pl; rw [List.length_map, List.length_range]
theorem pl_nodup (n : Int) : (pl n).Nodup := by
  unfold pl
  refine List.Pairwise.map _ (fun a b h => ?_) List.nodup_range
  omega
theorem pl_sorted (n : Int) : (pl n).Pairwise (· < ·) := by
  unfold pl
  refine List.Pairwise.map _ (fun a b h => ?_) List.pairwise_lt_range
  omega
theorem map_snoc (xs : List Int) (z : Int) : xs.map PyData.int ++ [PyData.int z] = (xs ++ [z]).map PyData.int := by rw [List.map_append]; rfl
end Sim
end T_SimP

section T_SimI
set_option Elab.async false
set_option linter.all false
set_option maxRecDepth 100000
/-! SimI: isinstance, what is never reached, enumerate, reversed, zip, list(range), list(reversed). -/
namespace Sim
open PySem PySem.Spec L2
open PyProof.Rows hiding St

/-! ### list(reversed(list)) -/
section
variable {prog : Program} {w : World} {A : Around} {E : Value → Shared → Prop} {s : Shared}
theorem extend_rev {R : Result → Shared → Prop} {it l : Addr} {items : Array Value} (hh : A.handled = none) (hit : s.heap.IsRevIter it l ((items.size : Int) - 1)) (hl : s.heap.IsList l items) (hne : l ≠ it) (hn : items.size ≤ sizeLine)
    (S : Addr) (res : Value) {c₀ : Nat} (hS : s.heap.get? S = some { cls := .type "list", data := .seq #[] c₀ })
    (hSi : S ≠ it) (hSl : S ≠ l)
    (hR : ∀ h' tk acc' c', (∀ b o, b ≠ S → b ≠ it → s.heap.get? b = some o → h'.get? b = some o) → h'.get? S = some { cls := .type "list", dict := none, data := .seq acc' c', slots := #[] } →
      ItemsOf (fun i v => items[items.size - 1 - i]? = some v) acc' items.size → R (.ok (.ret res)) { s with heap := h', toks := tk }) :
    wpAny (model prog w) A.in1 (Builtin.List.listExtendWith (.ref S) (.ref it) res)
      (fun fin s' => match fin with | .done f => R (.ok f) s' | .again c' => c'.quiet = true ∧ codeAny (model prog w) A c' R s') (fun e s' => R (.error e) s') s := by
  have W := (Walks.listRev (prog := prog) (w := w) (A := A.in1) hh it l hne items).toS
  have hSf : S ∉ [it, l] := by simp only [List.mem_cons, List.not_mem_nil, or_false, not_or]; exact ⟨hSi, hSl⟩
  have hT : s.TypeIs (.ref it) "list_reverseiterator" := hit.typeIs
  have h1 : Builtin.List.listSameRef (.ref S) (.ref it) = false := by simp [Builtin.List.listSameRef, hSi]
  unfold Builtin.List.listExtendWith
  refine wpAny_bind (wpAny_typeOf hT ?_)
  rw [if_neg (by rw [h1]; decide)]
  refine wpAny_bind (wpAny_pyIter_revIter hit ?_)
  refine wpAny_bind (wpAny_holding ?_)
  unfold Builtin.List.listLengthHint
  refine wpAny_bind (wpAny_specialOf hT RT.nolen_lri ?_)
  show wpAny _ A.in1 (specialOf (Value.ref it) (Str.ofString "__length_hint__") >>= _) _ _ _
  refine wpAny_bind (wpAny_specialOf hT RT.hint_lri ?_)
  generalize hid : ("list_reverseiterator.__length_hint__" : String) = id0
  wp_delta
  rw [show splitId id0 = some ("list_reverseiterator", "__length_hint__") from by subst hid; decide +kernel]
  subst hid
  refine wpAny_bind (wpAny_isInstance (b := true) hT (by rw [isSubtype_type]; kernel_rfl) ?_)
  refine wpAny_pure ?_
  rw [if_neg (by decide)]
  have e0 : ((items.size : Nat) : Int) - 1 - ((0 : Nat) : Int) = (items.size : Int) - 1 := by omega
  refine wpAny_pure ⟨plainId_quiet F.plain_extend_loop _, codeAny_extend_loopS W hn _ hSf _ items.size 0 _ _ _ rfl (Nat.zero_le _) ⟨Nat.zero_le _, by rw [e0]; exact hit, hl⟩ hS (ItemsOf.nil _) fun s' acc' c' hm hS' hacc => ?_⟩
  rw [Moved.eq_with hm]
  refine hR s'.heap s'.toks acc' c' (fun b o hb hb2 e => hm.heap b o (fun hmem => ?_) e) hS' hacc
  rcases List.mem_cons.mp hmem with e' | hmem
  · exact hb e'
  · exact hb2 (List.mem_singleton.mp hmem)
theorem list_init_rev {R : Result → Shared → Prop} {it l : Addr} {items : Array Value} (hh : A.handled = none) (hit : s.heap.IsRevIter it l ((items.size : Int) - 1)) (hl : s.heap.IsList l items) (hne : l ≠ it) (hn : items.size ≤ sizeLine)
    (S : Addr) (hS : s.heap.get? S = some { cls := .type "list", data := .seq #[] }) (hSi : S ≠ it) (hSl : S ≠ l)
    (hR : ∀ h' tk acc' c', (∀ b o, b ≠ S → b ≠ it → s.heap.get? b = some o → h'.get? b = some o) → h'.get? S = some { cls := .type "list", dict := none, data := .seq acc' c', slots := #[] } →
      ItemsOf (fun i v => items[items.size - 1 - i]? = some v) acc' items.size → R (.ok (.ret .none)) { s with heap := h', toks := tk }) :
    wpAny (model prog w) A.in1 (Builtin.«list.__init__» ⟨[.ref S, .ref it], []⟩)
      (fun fin s' => match fin with | .done f => R (.ok f) s' | .again c' => c'.quiet = true ∧ codeAny (model prog w) A c' R s') (fun e s' => R (.error e) s') s := by
  show wpAny _ _ (do let old ← Builtin.List.listItems (.ref S); Builtin.List.listUpdate (.ref S) (fun _ => #[]); letGo old.toList.reverse; Builtin.List.listExtendWith (.ref S) (.ref it) .none) _ _ s
  refine wpAny_bind ?_
  unfold Builtin.List.listItems
  refine wpAny_bind (wpAny_seqItems hS rfl (wpAny_pure ?_))
  show wpAny _ _ (updateSeq S (fun _ => #[]) >>= fun _ => letGo (#[] : Array Value).toList.reverse >>= fun _ => Builtin.List.listExtendWith (.ref S) (.ref it) .none) _ _ s
  refine wpAny_bind (wpAny_updateSeq hS rfl ?_)
  have hS₂ := Heap.get?_update_self (Obj.mapSeq (fun _ => (#[] : Array Value))) hS rfl
  have oth : ∀ b o, b ≠ S → s.heap.get? b = some o → (s.heap.update S (Obj.mapSeq (fun _ => (#[] : Array Value)))).get? b = some o :=
    fun b o hb e => (Heap.get?_update_other _ _ (Ne.symm hb)).trans e
  refine wpAny_bind (wpAny_letGo ?_)
  exact extend_rev (s := { s with heap := s.heap.update S (Obj.mapSeq (fun _ => (#[] : Array Value))) }) hh (hit.at fun o e => oth it o (Ne.symm hSi) e) (hl.at fun o e => oth l o (Ne.symm hSl) e) hne hn S .none hS₂ hSi hSl fun h' tk acc' c' hk hS' hacc =>
    hR h' tk acc' c' (fun b o hb hb2 e => hk b o hb hb2 (oth b o hb e)) hS' hacc
theorem call_list_rev {it l : Addr} {items : Array Value} {Q : Value → Shared → Prop} (hh : A.handled = none) (hit : s.heap.IsRevIter it l ((items.size : Int) - 1)) (hl : s.heap.IsList l items) (hne : l ≠ it) (hn : items.size ≤ sizeLine)
    (hQ : ∀ h' tk acc' c', (∀ b o, b ≠ it → s.heap.get? b = some o → h'.get? b = some o) →
      h'.get? s.heap.objs.size = some { cls := .type "list", dict := none, data := .seq acc' c', slots := #[] } → ItemsOf (fun i v => items[items.size - 1 - i]? = some v) acc' items.size → Q (.ref s.heap.objs.size) { s with heap := h', toks := tk }) :
    wpAny (model prog w) A (call (.type "list") [.ref it]) Q E s := by
  refine callType_codes (Q₁ := fun obj s₁ => obj = .ref s.heap.objs.size ∧ s₁ = { s with heap := s.heap.push { cls := .type "list", data := .seq #[] } }) F.called_list (F.typeCall_list_1 _) F.entry_list_init
    (code_list_new _ ⟨rfl, rfl⟩) fun obj s₁ h₁ => ?_
  obtain ⟨rfl, rfl⟩ := h₁
  have hS : (s.heap.push { cls := .type "list", data := .seq #[] }).get? s.heap.objs.size = some { cls := .type "list", data := .seq #[] } := Heap.get?_push_size _ rfl
  obtain ⟨oi, hoi, _⟩ := id hit
  obtain ⟨ol, hol, _⟩ := id hl
  refine ⟨⟨_, hS, rfl⟩, F.args_list_init_2 _ _, list_init_rev (A := A.in1) (s := { s with heap := s.heap.push { cls := .type "list", data := .seq #[] } }) hh (hit.at fun o e => Heap.get?_push_of_some _ e) (hl.push _) hne hn _ hS (Nat.ne_of_gt (Heap.lt_size hoi)) (Nat.ne_of_gt (Heap.lt_size hol)) fun h' tk acc' c' hk hS' hacc => ?_⟩
  exact ⟨rfl, hQ h' tk acc' c' (fun b o hb e => hk b o (Nat.ne_of_lt (Heap.lt_size e)) hb (Heap.get?_push_of_some _ e)) hS' hacc⟩
end
def tLstRev (K : PySem.W.Frag) (te : TE) : TE := fun σ H Q => te σ H fun v H1 => ∃ (a : Addr) (xs : List V), v = .ref a ∧ SqL K H1 a xs ∧ ∀ q, H1 q = none → Q (.ref q) (upd H1 q (.lst xs.reverse))
section
variable {X : Cx}
theorem pe_lstRev {e : Expr} {te : TE} {p p2 pos pos2 : Pos} (hc : X.calm = true) (hg : Gl X "list") (hm : X.mg "list" = none) (hg2 : Gl X "reversed") (hm2 : X.mg "reversed" = none) (he : PE X e te)
    (hs : starEach [e] X.env = (false, eval e X.env) :: starEach [] X.env := by rfl)
    (hs2 : starEach [.Call (.Name "reversed" p2) [e] [] pos2] X.env = (false, eval (.Call (.Name "reversed" p2) [e] [] pos2) X.env) :: starEach [] X.env := by rfl) :
    PE X (.Call (.Name "list" p) [.Call (.Name "reversed" p2) [e] [] pos2] [] pos) (tLstRev X.K te) := by
  refine ⟨fun pins s σ H Q I h => ?_⟩
  refine Call_ (ld_blt I hg hm boot_list (PyProof.Rows.callWith_type1 (args_cons (Call_ (ld_blt I hg2 hm2 PyProof.Rows.boot_reversed (PyProof.Rows.callWith_type1 (args_cons (thn (he.run pins s σ H _ I h) fun u s1 ⟨v, H1, I1, r1, q1⟩ => args_nil ?_) hs) hs rfl))) hs2) hs2 rfl))
  obtain ⟨a, xs, ev, hq, q⟩ := q1
  subst ev
  obtain rfl : u = Value.ref a := r1
  obtain ⟨its, rv, p', hz⟩ := I1.list hq
  refine call_reversed_list p'.isList (args_nil ?_)
  have k0 : ∀ b o, s1.heap.get? b = some o → (s1.heap.push (revObj a ((its.toArray.size : Int) - 1))).get? b = some o := fun b o e => Heap.get?_push_of_some _ e
  have I2 : Inv X pins σ H1 { s1 with heap := s1.heap.push (revObj a ((its.toArray.size : Int) - 1)) } := I1.kept (t' := s1.toks) k0
  obtain ⟨f0, f1, f2, f3, f4, f5⟩ := I1.fpOk (H' := H1) (b := s1.heap.objs.size) (Nat.le_refl _) (I1.hok.fresh (Nat.le_refl _))
  have hl := p'.isList
  obtain ⟨ol, hol, _⟩ := id hl
  have hne : a ≠ s1.heap.objs.size := Nat.ne_of_lt (Heap.lt_size hol)
  have hn : its.toArray.size ≤ sizeLine := by rw [List.size_toArray, ← rv.length]; exact hz
  refine call_list_rev (s := { s1 with heap := s1.heap.push (revObj a ((its.toArray.size : Int) - 1)) }) (I1.ok.hd hc) ⟨_, Heap.get?_push_size _ rfl, rfl, rfl⟩ (hl.push _) hne hn fun h' tk acc c' hk he' hi => ?_
  have I3 : Inv X pins σ H1 { s1 with heap := h', toks := tk } := I2.turned (t' := tk) (fun b o hb e => hk b o hb e) f0 f1 f3 f4 f5
  refine ⟨.ref (s1.heap.push (revObj a ((its.toArray.size : Int) - 1))).objs.size, upd H1 (s1.heap.push (revObj a ((its.toArray.size : Int) - 1))).objs.size (.lst xs.reverse), ?_, rfl, q _ (I2.hok.fresh (Nat.le_refl _))⟩
  refine I2.turnedNew (t' := tk) (ch := [s1.heap.objs.size]) (fun b o hb e => hk b o (fun z => hb (by simp [z])) e) (fun b hb => ?_) (Nat.le_refl _) (show ObjOk X.prog X.w _ _ _ (.lst xs.reverse) from ⟨by rw [List.length_reverse]; exact hz, acc.toList, c', RT.vals_rev rv hi, ?_⟩)
  · have e : b = s1.heap.objs.size := by simpa using hb
    subst e
    exact ⟨f0, f1, f2, f3, f4, f5⟩
  · rw [Array.toArray_toList]; exact he'
end

/-! ### isinstance -/
inductive Ty5 where
  | int | bool | str | list | tuple
def Ty5.nm : Ty5 → String
  | .int => "int"
  | .bool => "bool"
  | .str => "str"
  | .list => "list"
  | .tuple => "tuple"
def isaB (T : Ty5) : Dt → Option Bool
  | .none => some false
  | .bool _ => some (match T with | .bool => true | .int => true | _ => false)
  | .int _ => some (match T with | .int => true | _ => false)
  | .str _ => some (match T with | .str => true | _ => false)
  | .list _ => some (match T with | .list => true | _ => false)
  | .tuple _ => some (match T with | .tuple => true | _ => false)
  | _ => none
def hIsa (T : Ty5) : Dt → O Dt := fun d => match isaB T d with
  | some b => .ok (.bool b)
  | none => .bad
theorem scl_isa {T : Ty5} : Scl1 (hIsa T) := fun d => by
  unfold hIsa
  cases isaB T d with
  | none => exact .inr rfl
  | some b => exact .inl ⟨_, rfl, rfl⟩
section
variable {K : PySem.W.Frag} {W : Wt} {Δ : List Kd} {te : TE} {g : Gd} {av fr : Bool} {T : Ty5}
theorem kit_non : PySem.W.kitOne K (.type "NoneType") (.type T.nm) = some false := by cases T <;> exact kit_ty (by decide +kernel)
theorem kit_bl : PySem.W.kitOne K (.type "bool") (.type T.nm) = some (match T with | .bool => true | .int => true | _ => false) := by cases T <;> exact kit_ty (by decide +kernel)
theorem kit_int : PySem.W.kitOne K (.type "int") (.type T.nm) = some (match T with | .int => true | _ => false) := by cases T <;> exact kit_ty (by decide +kernel)
theorem kit_str : PySem.W.kitOne K (.type "str") (.type T.nm) = some (match T with | .str => true | _ => false) := by cases T <;> exact kit_ty (by decide +kernel)
theorem kit_list : PySem.W.kitOne K (.type "list") (.type T.nm) = some (match T with | .list => true | _ => false) := by cases T <;> exact kit_ty (by decide +kernel)
theorem kit_tuple : PySem.W.kitOne K (.type "tuple") (.type T.nm) = some (match T with | .tuple => true | _ => false) := by cases T <;> exact kit_ty (by decide +kernel)
theorem rp_isa {F : Addr → Prop} {H : Hp} {v : V} {d : Dt} {b : Bool} (h : Rp K F H v d) (e : isaB T d = some b) : ∃ t, TyX K H v t ∧ PySem.W.kitOne K t (.type T.nm) = some b := by
  cases h with
  | non => cases e; exact ⟨_, .base .non, kit_non⟩
  | bl x => cases e; exact ⟨_, .base (.bl x), kit_bl⟩
  | int x => cases e; exact ⟨_, .base (.int x), kit_int⟩
  | str x => cases e; exact ⟨_, .base (.str x), kit_str⟩
  | lst hp _ _ => cases e; exact ⟨_, .base (.lst hp), kit_list⟩
  | fz hp _ =>
    cases e
    rcases hp with ⟨o, hp⟩ | ⟨o, its, n, hp, hc, _⟩
    · exact ⟨_, .base (.frz hp), kit_list⟩
    · exact ⟨_, .kList hp hc, kit_list⟩
  | tup hp _ =>
    cases e
    rcases hp with (hp | ⟨o, hp⟩) | ⟨o, its, n, hp, hc, _⟩
    · exact ⟨_, .base (.tup hp), kit_tuple⟩
    · exact ⟨_, .fTuple hp, kit_tuple⟩
    · exact ⟨_, .kTuple hp hc, kit_tuple⟩
  | dic _ _ _ _ => cases e
theorem se_isa (ha : SE K W Δ te (.v av fr) g) : SE K W Δ (tCB (rIsi K) (tCons te (tCons (tC (.ty T.nm)) tNil))) (.v true true) (gUn (hIsa T) g) := fun f ρ σ H Q R q => by
  refine ha f ρ σ H _ R ?_
  unfold gUn at q
  cases e1 : g ρ with
  | bad => rw [e1] at q; exact q
  | ex z => rw [e1] at q; exact q
  | ok d =>
    rw [e1, bnd_ok] at q
    intro v H1 s1 x1
    unfold hIsa at q
    cases e2 : isaB T d with
    | none => rw [e2] at q; exact q.elim
    | some b =>
      rw [e2] at q
      obtain ⟨t, h1, h2⟩ := rp_isa x1 e2
      exact ⟨v, .ty T.nm, t, .type T.nm, b, rfl, .ty _, h1, h2, q _ H1 s1 (.bl b)⟩
end
section
variable {X : Cx} {K : PySem.W.Frag} {W : Wt} {Δ Δn Δb Δc : List Kd} {a b e : Expr} {es : List Expr} {ta tb te : TE} {tA : TA} {g ga : Gd} {gA : List Dt → O (List Dt)} {av fr : Bool} {L : Lk} {pos : Pos} {st : Stmt}
theorem x_isa (T : Ty5) {x : Str} {p p2 : Pos} (hm : X.mg "isinstance" = none) (hm2 : X.mg x = none) (h : PD X K W Δ e te (.v av fr) g) (hv : bootBuiltins x = some (.type T.nm) := by decide +kernel) (hg2 : Gl X x := by rfl) (hn : x ≠ "__name__" := by decide) (hdb : (x == ("__debug__" : Str)) = false := by decide)
    (hg : Gl X "isinstance" := by rfl)
    (he : starEach [e, .Name x p2] X.env = (false, eval e X.env) :: starEach [.Name x p2] X.env := by rfl) (he2 : starEach [.Name x p2] X.env = (false, eval (.Name x p2) X.env) :: starEach [] X.env := by rfl) (hpl : (backTo pos (starEach [.Name x p2] X.env)).any (·.1) = false := by rfl) :
    PD X K W Δ (.Call (.Name "isinstance" p) [e, .Name x p2] [] pos) (tCB (rIsi K) (tCons te (tCons (tC (.ty T.nm)) tNil))) (.v true true) (gUn (hIsa T) g) :=
  ⟨pe_callB (by have q := call_isi (X := X); rw [h.hK] at q; exact q) hg hm (by decide +kernel) (pa_cons h.pe (pa_cons (pe_bltn hg2 hm2 hv rfl hn hdb) pa_nil he2) he) (by decide) (by decide) he hpl, h.hK, se_isa h.se⟩

/-! ### what is never reached -/
def gBad : Gs := fun _ => .bad
theorem z_never (hK : X.K = K := by rfl) : SD X K W L Δ Δn Δb Δc st tNever gBad := ⟨ps_never, hK, fun f ρ σ H E r q => q.elim⟩

/-! ### enumerate, reversed, zip -/
def lst1 : List Dt → Option (List Dt)
  | [.list es] => some es
  | _ => none
def lst2 : List Dt → Option (List Dt × List Dt)
  | [.list es, .list es2] => some (es, es2)
  | _ => none
theorem lst1_inv {ds es : List Dt} (h : lst1 ds = some es) : ds = [.list es] := by
  unfold lst1 at h
  split at h
  · cases h; rfl
  · cases h
theorem lst2_inv {ds : List Dt} {p : List Dt × List Dt} (h : lst2 ds = some p) : ds = [.list p.1, .list p.2] := by
  unfold lst2 at h
  split at h
  · cases h; rfl
  · cases h
def enumD (es : List Dt) : List Dt := es.zipIdx.map fun p => .tuple [.int (p.2 : Nat), p.1]
def zipD (es es2 : List Dt) : List Dt := (es.zip es2).map fun p => .tuple [p.1, p.2]
def gEnum (gA : List Dt → O (List Dt)) : List Dt → O (List Dt) := fun ρ => bnd (gA ρ) fun ds => match lst1 ds with
  | some es => .ok (enumD es)
  | none => .bad
def gRev (gA : List Dt → O (List Dt)) : List Dt → O (List Dt) := fun ρ => bnd (gA ρ) fun ds => match lst1 ds with
  | some es => .ok es.reverse
  | none => .bad
def gZip (gA : List Dt → O (List Dt)) : List Dt → O (List Dt) := fun ρ => bnd (gA ρ) fun ds => match lst2 ds with
  | some p => .ok (zipD p.1 p.2)
  | none => .bad
theorem sc_enum {c : Addr} {es : List Dt} : Sc K (Ite K c) none [.ref c] [.list es] (enumD es) where
  goes := fun i H hi ⟨_, F, r⟩ => by
    cases r with
    | cons h _ =>
      obtain ⟨b, xs, e, hs, r⟩ := h.sql
      cases e
      have hx : i < xs.length := by rw [r.length]; unfold enumD at hi; simpa using hi
      exact ⟨xs, xs[i], hs, List.getElem?_eq_getElem hx⟩
  stops := fun H ⟨_, F, r⟩ => by
    cases r with
    | cons h _ =>
      obtain ⟨b, xs, e, hs, r⟩ := h.sql
      cases e
      exact ⟨xs, hs, by rw [r.length]; unfold enumD; simp⟩
  yields := fun i H x H' hi _ y => by
    obtain ⟨T, z, e, nT, eH, y⟩ := y
    subst e eH
    refine ⟨same_upd nT, fun F r => ?_⟩
    cases r with
    | cons h _ =>
      obtain ⟨b, xs, e, hs, r⟩ := h.sql
      cases e
      obtain ⟨d, h1, h2⟩ := r.get (y xs hs)
      refine ⟨.tuple [.int (i : Nat), d], ?_, .tup (.inl (.inl upd_same)) (.cons (.int _) (.cons (h2.same (same_upd nT)) .nil))⟩
      unfold enumD
      rw [List.getElem?_map, List.getElem?_zipIdx, h1]
      simp
theorem sc_rev {c : Addr} {es : List Dt} {n : Nat} (hn : n = es.length) : Sc K (Itv K c n) none [.ref c] [.list es] es.reverse where
  goes := fun i H hi ⟨_, F, r⟩ => by
    cases r with
    | cons h _ =>
      obtain ⟨b, xs, e, hs, r⟩ := h.sql
      cases e
      rw [List.length_reverse] at hi
      have hx : n - 1 - i < xs.length := by rw [r.length]; omega
      exact ⟨by omega, xs, _, hs, List.getElem?_eq_getElem hx⟩
  stops := fun H _ => by rw [List.length_reverse]; exact Nat.le_of_eq hn
  yields := fun i H x H' hi _ y => by
    obtain ⟨e, y⟩ := y
    subst e
    refine ⟨Same.refl _, fun F r => ?_⟩
    cases r with
    | cons h _ =>
      obtain ⟨b, xs, e, hs, r⟩ := h.sql
      cases e
      obtain ⟨d, h1, h2⟩ := r.get (y xs hs)
      rw [List.length_reverse] at hi
      exact ⟨d, by rw [List.getElem?_reverse hi, ← hn]; exact h1, h2⟩
theorem sc_zip {c c2 : Addr} {es es2 : List Dt} : Sc K (Itz K c c2) none [.ref c, .ref c2] [.list es, .list es2] (zipD es es2) where
  goes := fun i H hi ⟨_, F, r⟩ => by
    cases r with
    | cons h r2 =>
      cases r2 with
      | cons h2 _ =>
        obtain ⟨b, xs, e, hs, r⟩ := h.sql
        cases e
        obtain ⟨b, xs2, e, hs2, r2⟩ := h2.sql
        cases e
        have hl : i < es.length ∧ i < es2.length := by unfold zipD at hi; rw [List.length_map, List.length_zip] at hi; omega
        exact ⟨xs, xs2, _, _, hs, hs2, List.getElem?_eq_getElem (by rw [r.length]; exact hl.1), List.getElem?_eq_getElem (by rw [r2.length]; exact hl.2)⟩
  stops := fun H ⟨_, F, r⟩ => by
    cases r with
    | cons h r2 =>
      cases r2 with
      | cons h2 _ =>
        obtain ⟨b, xs, e, hs, r⟩ := h.sql
        cases e
        obtain ⟨b, xs2, e, hs2, r2⟩ := h2.sql
        cases e
        refine ⟨xs, xs2, hs, hs2, ?_⟩
        unfold zipD
        rw [List.length_map, List.length_zip, r.length, r2.length]
        omega
  yields := fun i H x H' hi _ y => by
    obtain ⟨T, z, z2, e, nT, eH, y, y2⟩ := y
    subst e eH
    refine ⟨same_upd nT, fun F r => ?_⟩
    cases r with
    | cons h r2 =>
      cases r2 with
      | cons h2 _ =>
        obtain ⟨b, xs, e, hs, r⟩ := h.sql
        cases e
        obtain ⟨b, xs2, e, hs2, r2⟩ := h2.sql
        cases e
        obtain ⟨d, h1, h1'⟩ := r.get (y xs hs)
        obtain ⟨d2, h2, h2'⟩ := r2.get (y2 xs2 hs2)
        refine ⟨.tuple [d, d2], ?_, .tup (.inl (.inl upd_same)) (.cons (h1'.same (same_upd nT)) (.cons (h2'.same (same_upd nT)) .nil))⟩
        unfold zipD
        rw [List.getElem?_map, List.getElem?_zip_eq_some (z := (d, d2)) |>.mpr ⟨h1, h2⟩]
        rfl
theorem si_enum (h : SA K W Δ tA true fr gA) : SI K W Δ (iEnum K tA) false fr (gEnum gA) := fun f ρ σ H Rk R q => by
  refine h f ρ σ H _ R ?_
  unfold gEnum at q
  cases e1 : gA ρ with
  | bad => rw [e1] at q; exact q
  | ex z => rw [e1] at q; exact q
  | ok ds =>
    rw [e1, bnd_ok] at q
    intro vs H1 s1 x1
    cases er : lst1 ds with
    | none => rw [er] at q; exact q.elim
    | some es =>
      rw [er] at q
      have e := lst1_inv er
      subst e
      have x0 := x1
      cases x1 with
      | cons x1 xr =>
        cases xr
        obtain ⟨c, xs, rfl, hs, r⟩ := x1.sql
        exact ⟨c, xs, rfl, hs, q _ H1 none [.ref c] [.list es] s1 (fun _ => rfl) (fun _ e => nomatch e) x0 sc_enum⟩
theorem si_rev (h : SA K W Δ tA true fr gA) : SI K W Δ (iRev K tA) false fr (gRev gA) := fun f ρ σ H Rk R q => by
  refine h f ρ σ H _ R ?_
  unfold gRev at q
  cases e1 : gA ρ with
  | bad => rw [e1] at q; exact q
  | ex z => rw [e1] at q; exact q
  | ok ds =>
    rw [e1, bnd_ok] at q
    intro vs H1 s1 x1
    cases er : lst1 ds with
    | none => rw [er] at q; exact q.elim
    | some es =>
      rw [er] at q
      have e := lst1_inv er
      subst e
      have x0 := x1
      cases x1 with
      | cons x1 xr =>
        cases xr
        obtain ⟨c, xs, rfl, hs, r⟩ := x1.sql
        exact ⟨c, xs, rfl, hs, q _ H1 none [.ref c] [.list es] s1 (fun _ => rfl) (fun _ e => nomatch e) x0 (sc_rev r.length)⟩
theorem si_zip (h : SA K W Δ tA true fr gA) : SI K W Δ (iZip K tA) false fr (gZip gA) := fun f ρ σ H Rk R q => by
  refine h f ρ σ H _ R ?_
  unfold gZip at q
  cases e1 : gA ρ with
  | bad => rw [e1] at q; exact q
  | ex z => rw [e1] at q; exact q
  | ok ds =>
    rw [e1, bnd_ok] at q
    intro vs H1 s1 x1
    cases er : lst2 ds with
    | none => rw [er] at q; exact q.elim
    | some p =>
      rw [er] at q
      have e := lst2_inv er
      subst e
      have x0 := x1
      cases x1 with
      | cons x1 xr =>
        cases xr with
        | cons x2 xr =>
          cases xr
          obtain ⟨c, xs, rfl, hs, r⟩ := x1.sql
          obtain ⟨c2, xs2, rfl, hs2, r2⟩ := x2.sql
          exact ⟨c, c2, xs, xs2, rfl, hs, hs2, q _ H1 none [.ref c, .ref c2] [.list p.1, .list p.2] s1 (fun _ => rfl) (fun _ e => nomatch e) x0 sc_zip⟩
theorem i_enum {p tpos : Pos} {elts : List Expr} {kk : Nat} (hm : X.mg "enumerate" = none) (h : AD X K W Δ [a] tA true fr gA) (hg : Gl X "enumerate" := by rfl) (hs : starEach [a] X.env = [(false, eval a X.env)] := by rfl) : ID X K W Δ (.Tuple elts kk tpos) (.Call (.Name "enumerate" p) [a] [] pos) (iEnum K tA) false fr (gEnum gA) :=
  ⟨by have q := pi_enum (X := X) (tpos := tpos) (elts := elts) (kk := kk) (p := p) (pos := pos) hg hm h.pa hs; rw [h.hK] at q; exact q, h.hK, si_enum h.sa⟩
theorem i_rev {tg : Expr} {p : Pos} (hm : X.mg "reversed" = none) (h : AD X K W Δ [a] tA true fr gA) (hg : Gl X "reversed" := by rfl) (hs : starEach [a] X.env = [(false, eval a X.env)] := by rfl) : ID X K W Δ tg (.Call (.Name "reversed" p) [a] [] pos) (iRev K tA) false fr (gRev gA) :=
  ⟨by have q := pi_reversed (X := X) (tg := tg) (p := p) (pos := pos) hg hm h.pa hs; rw [h.hK] at q; exact q, h.hK, si_rev h.sa⟩
theorem i_zip {p tpos : Pos} {elts : List Expr} {kk : Nat} (hm : X.mg "zip" = none) (h : AD X K W Δ [a, b] tA true fr gA) (hg : Gl X "zip" := by rfl) (hs : starEach [a, b] X.env = (false, eval a X.env) :: starEach [b] X.env := by rfl) (hpl : (backTo pos (starEach [b] X.env)).any (·.1) = false := by rfl) : ID X K W Δ (.Tuple elts kk tpos) (.Call (.Name "zip" p) [a, b] [] pos) (iZip K tA) false fr (gZip gA) :=
  ⟨by have q := pi_zip (X := X) (tpos := tpos) (elts := elts) (kk := kk) (p := p) (pos := pos) hg hm h.pa hs hpl; rw [h.hK] at q; exact q, h.hK, si_zip h.sa⟩

/-! ### list(range), list(reversed) -/
def gLsI (gI : List Dt → O (List Dt)) : Gd := fun ρ => bnd (gI ρ) fun ds => if ds.length ≤ 100000 then .ok (.list ds) else .bad
theorem rpA_mapInt {F : Addr → Prop} {H : Hp} {α : Type} (f : α → Int) : ∀ l : List α, RpA K F H (l.map fun i => V.int (f i)) (l.map fun i => PyData.int (f i))
  | [] => .nil
  | x :: l => .cons (.int _) (rpA_mapInt f l)
theorem se_lrng1 (ha : SE K W Δ te (.v av fr) g) : SE K W Δ (tLstRg (tRg1 te)) (.new .l true) (gLsI (gRng1 (gCons g gNil))) := fun f ρ σ H Q R q => by
  refine ha f ρ σ H _ R ?_
  unfold gLsI gRng1 gCons gNil at q
  cases e1 : g ρ with
  | bad => rw [e1] at q; exact q
  | ex z => rw [e1] at q; exact q
  | ok d =>
    rw [e1, bnd_ok, bnd_ok, bnd_ok] at q
    intro v H1 s1 x1
    cases er : rng1 [d] with
    | none => rw [er] at q; exact q.elim
    | some p =>
      rw [er] at q
      unfold rng1 at er
      split at er
      · split at er
        · rename_i hj
          obtain ⟨e, e'⟩ := List.cons.inj ‹[d] = _›
          rename_i j h2
          cases er
          subst e
          rw [rpInt x1]
          simp only [bnd_ok] at q
          by_cases l : (rangeD 0 j).length ≤ 100000
          · rw [if_pos l] at q
            rw [rangeD_len] at l
            refine ⟨j, rfl, ⟨by omega, by omega, hj.1, hj.2, by omega⟩, fun p np => q p _ (s1.free np) (s1.trans (same_upd np)) ⟨_, _, rfl, upd_same, ?_⟩⟩
            exact rpA_mapInt _ _
          · rw [if_neg l] at q
            exact q.elim
        · cases er
      · cases er
theorem se_lrng2 (ha : SE K W Δ ta (.v av fr) ga) {av' fr' : Bool} (hb : SE K W Δ tb (.v av' fr') g) : SE K W Δ (tLstRg (tRg2 ta tb)) (.new .l true) (gLsI (gRng2 (gCons ga (gCons g gNil)))) := fun f ρ σ H Q R q => by
  refine ha f ρ σ H _ R ?_
  unfold gLsI gRng2 gCons gNil at q
  cases e1 : ga ρ with
  | bad => rw [e1] at q; exact q
  | ex z => rw [e1] at q; exact q
  | ok d =>
    rw [e1, bnd_ok] at q
    intro v H1 s1 x1
    refine hb f ρ σ H1 _ (R.mono s1) ?_
    cases e2 : g ρ with
    | bad => rw [e2] at q; exact q
    | ex z => rw [e2] at q; exact fun H' s => q H' (s1.trans s)
    | ok d2 =>
      rw [e2, bnd_ok, bnd_ok, bnd_ok, bnd_ok] at q
      intro v2 H2 s2 x2
      cases er : rng2 [d, d2] with
      | none => rw [er] at q; exact q.elim
      | some p =>
        rw [er] at q
        unfold rng2 at er
        split at er
        · split at er
          · rename_i hj
            obtain ⟨e, e'⟩ := List.cons.inj ‹[d, d2] = _›
            obtain ⟨e', _⟩ := List.cons.inj e'
            cases er
            subst e e'
            rw [rpInt x1, rpInt x2]
            simp only [bnd_ok] at q
            rename_i i j _ _
            by_cases l : (rangeD i j).length ≤ 100000
            · rw [if_pos l] at q
              rw [rangeD_len] at l
              refine ⟨i, j, rfl, rfl, ⟨hj.1, hj.2.1, hj.2.2.1, hj.2.2.2, by omega⟩, fun p np => q p _ ((s1.trans s2).free np) ((s1.trans s2).trans (same_upd np)) ⟨_, _, rfl, upd_same, ?_⟩⟩
              exact rpA_mapInt _ _
            · rw [if_neg l] at q
              exact q.elim
          · cases er
        · cases er
theorem se_lrev (ha : SE K W Δ te (.v true fr) g) : SE K W Δ (tLstRev K te) (.new .l fr) (gLsI (gRev (gCons g gNil))) := fun f ρ σ H Q R q => by
  refine ha f ρ σ H _ R ?_
  unfold gLsI gRev gCons gNil at q
  cases e1 : g ρ with
  | bad => rw [e1] at q; exact q
  | ex z => rw [e1] at q; exact q
  | ok d =>
    rw [e1, bnd_ok, bnd_ok, bnd_ok] at q
    intro v H1 s1 x1
    cases er : lst1 [d] with
    | none => rw [er] at q; exact q.elim
    | some es =>
      rw [er] at q
      have e := List.cons.inj (lst1_inv er)
      cases e.1
      simp only [bnd_ok] at q
      by_cases l : es.reverse.length ≤ 100000
      · rw [if_pos l] at q
        obtain ⟨c, xs, rfl, hs, r⟩ := x1.sql
        exact ⟨c, xs, rfl, hs, fun p np => q p _ (s1.free np) (s1.trans (same_upd np)) ⟨_, _, rfl, upd_same, r.reverse.mono (same_upd np) fun a y z => ⟨y, fun e => z (e ▸ np)⟩⟩⟩
      · rw [if_neg l] at q
        exact q.elim
theorem se_lrevO (ha : SE K W Δ te (.o fr) g) : SE K W Δ (tLstRev K te) (.new .l fr) (gLsI (gRev (gCons g gNil))) := fun f ρ σ H Q R q => by
  refine ha f ρ σ H _ R ?_
  unfold gLsI gRev gCons gNil at q
  cases e1 : g ρ with
  | bad => rw [e1] at q; exact q
  | ex z => rw [e1] at q; exact q
  | ok d =>
    rw [e1, bnd_ok, bnd_ok, bnd_ok] at q
    intro p H1 vs ds ed s1 hp gp x1
    subst ed
    simp only [bnd_ok, lst1] at q
    by_cases l : ds.reverse.length ≤ 100000
    · rw [if_pos l] at q
      exact ⟨p, vs, rfl, .inl (.inl hp), fun p np => q p _ (s1.free np) (s1.trans (same_upd np)) ⟨_, _, rfl, upd_same, x1.reverse.mono (same_upd np) fun a y z => ⟨y, fun e => z (e ▸ np)⟩⟩⟩
    · rw [if_neg l] at q
      exact q.elim
theorem x_lrng1 {p p2 pos2 : Pos} (hm : X.mg "list" = none) (hm2 : X.mg "range" = none) (h : PD X K W Δ a ta (.v av fr) ga) (hc : X.calm = true := by rfl) (hg : Gl X "list" := by rfl) (hg2 : Gl X "range" := by rfl)
    (na : starEach [a] X.env = (false, eval a X.env) :: starEach [] X.env := by rfl) (na2 : starEach [.Call (.Name "range" p2) [a] [] pos2] X.env = (false, eval (.Call (.Name "range" p2) [a] [] pos2) X.env) :: starEach [] X.env := by rfl) :
    PD X K W Δ (.Call (.Name "list" p) [.Call (.Name "range" p2) [a] [] pos2] [] pos) (tLstRg (tRg1 ta)) (.new .l true) (gLsI (gRng1 (gCons ga gNil))) := ⟨pe_listRg hc hg hm (prg_1 hg2 hm2 h.pe na) na2, h.hK, se_lrng1 h.se⟩
theorem x_lrng2 {av' fr' : Bool} {p p2 pos2 : Pos} (hm : X.mg "list" = none) (hm2 : X.mg "range" = none) (h : PD X K W Δ a ta (.v av fr) ga) (h' : PD X K W Δ b tb (.v av' fr') g) (hc : X.calm = true := by rfl) (hg : Gl X "list" := by rfl) (hg2 : Gl X "range" := by rfl)
    (na : starEach [a, b] X.env = (false, eval a X.env) :: starEach [b] X.env := by rfl) (nb : starEach [b] X.env = (false, eval b X.env) :: starEach [] X.env := by rfl) (hp : (backTo pos2 (starEach [b] X.env)).any (·.1) = false := by rfl)
    (na2 : starEach [.Call (.Name "range" p2) [a, b] [] pos2] X.env = (false, eval (.Call (.Name "range" p2) [a, b] [] pos2) X.env) :: starEach [] X.env := by rfl) :
    PD X K W Δ (.Call (.Name "list" p) [.Call (.Name "range" p2) [a, b] [] pos2] [] pos) (tLstRg (tRg2 ta tb)) (.new .l true) (gLsI (gRng2 (gCons ga (gCons g gNil)))) := ⟨pe_listRg hc hg hm (prg_2 hg2 hm2 h.pe h'.pe na nb hp) na2, h.hK, se_lrng2 h.se h'.se⟩
theorem x_lrev {p p2 pos2 : Pos} (hm : X.mg "list" = none) (hm2 : X.mg "reversed" = none) (h : PD X K W Δ a ta (.v true fr) ga) (hc : X.calm = true := by rfl) (hg : Gl X "list" := by rfl) (hg2 : Gl X "reversed" := by rfl)
    (na : starEach [a] X.env = (false, eval a X.env) :: starEach [] X.env := by rfl) (na2 : starEach [.Call (.Name "reversed" p2) [a] [] pos2] X.env = (false, eval (.Call (.Name "reversed" p2) [a] [] pos2) X.env) :: starEach [] X.env := by rfl) :
    PD X K W Δ (.Call (.Name "list" p) [.Call (.Name "reversed" p2) [a] [] pos2] [] pos) (tLstRev K ta) (.new .l fr) (gLsI (gRev (gCons ga gNil))) := ⟨by have q := pe_lstRev (X := X) (p := p) (p2 := p2) (pos := pos) (pos2 := pos2) hc hg hm hg2 hm2 h.pe na na2; rw [h.hK] at q; exact q, h.hK, se_lrev h.se⟩
theorem x_lrevO {p p2 pos2 : Pos} (hm : X.mg "list" = none) (hm2 : X.mg "reversed" = none) (h : PD X K W Δ a ta (.o fr) ga) (hc : X.calm = true := by rfl) (hg : Gl X "list" := by rfl) (hg2 : Gl X "reversed" := by rfl)
    (na : starEach [a] X.env = (false, eval a X.env) :: starEach [] X.env := by rfl) (na2 : starEach [.Call (.Name "reversed" p2) [a] [] pos2] X.env = (false, eval (.Call (.Name "reversed" p2) [a] [] pos2) X.env) :: starEach [] X.env := by rfl) :
    PD X K W Δ (.Call (.Name "list" p) [.Call (.Name "reversed" p2) [a] [] pos2] [] pos) (tLstRev K ta) (.new .l fr) (gLsI (gRev (gCons ga gNil))) := ⟨by have q := pe_lstRev (X := X) (p := p) (p2 := p2) (pos := pos) (pos2 := pos2) hc hg hm hg2 hm2 h.pe na na2; rw [h.hK] at q; exact q, h.hK, se_lrevO h.se⟩
end
/-! ### range(i, j, -1) -/
def rng3 : List Dt → Option (Int × Int)
  | [.int i, .int j, .int c] => if c = -1 ∧ -(2 ^ 62) ≤ i ∧ i < 2 ^ 62 ∧ -(2 ^ 62) ≤ j ∧ j < 2 ^ 62 then some (i, j) else none
  | _ => none
theorem rng3_inv {ds : List Dt} {p : Int × Int} (h : rng3 ds = some p) : ds = [.int p.1, .int p.2, .int (-1)] ∧ -(2 ^ 62) ≤ p.1 ∧ p.1 < 2 ^ 62 ∧ -(2 ^ 62) ≤ p.2 ∧ p.2 < 2 ^ 62 := by
  unfold rng3 at h
  split at h
  · split at h
    · rename_i c
      cases h
      obtain ⟨e, c⟩ := c
      subst e
      exact ⟨rfl, c⟩
    · cases h
  · cases h
def downD (i j : Int) : List Dt := (List.range (i - j).toNat).map fun (k : Nat) => .int (i - (k : Int))
def gRng3 (g : List Dt → O (List Dt)) : List Dt → O (List Dt) := fun ρ => bnd (g ρ) fun ds => match rng3 ds with
  | some p => .ok (downD p.1 p.2)
  | none => .bad
section
variable {K : PySem.W.Frag} {W : Wt} {Δ : List Kd}
theorem downD_len (i j : Int) : (downD i j).length = (i - j).toNat := by unfold downD; simp
theorem sc_down {i j : Int} : Sc K (Itc i (-1) (i - j).toNat) none [] [] (downD i j) where
  goes := fun k H hi' _ => by rw [downD_len] at hi'; exact hi'
  stops := fun H _ => by rw [downD_len]; exact Nat.le_refl _
  yields := fun k H x H' hi' _ y => by
    obtain ⟨e, y⟩ := y
    subst e y
    refine ⟨Same.refl _, fun F r => ⟨_, ?_, .int _⟩⟩
    rw [downD_len] at hi'
    unfold downD
    rw [List.getElem?_map, List.getElem?_range hi']
    have e : i - (k : Int) = i + (k : Nat) * (-1) := by omega
    rw [← e]
    rfl
theorem si_rng3 {tA : TA} {gA : List Dt → O (List Dt)} {av fr : Bool} (h : SA K W Δ tA av fr gA) : SI K W Δ (iRng3 tA) false true (gRng3 gA) := fun f ρ σ H Rk R q => by
  refine h f ρ σ H _ R ?_
  unfold gRng3 at q
  cases e1 : gA ρ with
  | bad => rw [e1] at q; exact q
  | ex z => rw [e1] at q; exact q
  | ok ds =>
    rw [e1, bnd_ok] at q
    intro vs H1 s1 x1
    cases er : rng3 ds with
    | none => rw [er] at q; exact q.elim
    | some p =>
      rw [er] at q
      obtain ⟨e, b1, b2, b3, b4⟩ := rng3_inv er
      subst e
      cases x1 with
      | cons x1 xr =>
        cases xr with
        | cons x2 xr =>
          cases xr with
          | cons x3 xr =>
            cases xr
            rw [rpInt x1, rpInt x2, rpInt x3]
            exact ⟨p.1, p.2, -1, (p.1 - p.2).toNat, rfl, RgC.neg b1 b2 b3 b4, q _ H1 none [] [] s1 (fun _ => rfl) (fun _ e => nomatch e) .nil sc_down⟩
theorem i_rng3 {X : Cx} {tg a b c : Expr} {tA : TA} {gA : List Dt → O (List Dt)} {av fr : Bool} {pos p : Pos} (hm : X.mg "range" = none) (h : AD X K W Δ [a, b, c] tA av fr gA) (hg : Gl X "range" := by rfl)
    (hs : starEach [a, b, c] X.env = (false, eval a X.env) :: starEach [b, c] X.env := by rfl) (hpl : (backTo pos (starEach [b, c] X.env)).any (·.1) = false := by rfl) : ID X K W Δ tg (.Call (.Name "range" p) [a, b, c] [] pos) (iRng3 tA) false true (gRng3 gA) := ⟨pi_range3 hg hm h.pa hs hpl, h.hK, si_rng3 h.sa⟩
end
/-! ### << -/
def hShl := hI cPow fun i j => i * 2 ^ j.toNat
theorem x_shl {X : Cx} {K : PySem.W.Frag} {W : Wt} {Δ : List Kd} {a b : Expr} {ta tb : TE} {ga gb : Gd} {av fr av' fr' : Bool} {pos : Pos} (ha : PD X K W Δ a ta (.v av fr) ga) (hb : PD X K W Δ b tb (.v av' fr') gb) : PD X K W Δ (.BinOp a .LShift b pos) (tOp (rI CPow fun i j => .int (i * 2 ^ j.toNat)) ta tb) (.v true true) (gOp hShl ga gb) := ⟨pe_op op_shl ha.pe hb.pe, ha.hK, se_op scl_I (osc_I fun _ _ => cPow_ok) ha.se hb.se⟩
/-! ### plain lemmas -/
theorem gChain_def (h h' : Dt → Dt → O Dt) (ga gb gc : Gd) (ρ : List Dt) : gChain h h' ga gb gc ρ = bnd (ga ρ) fun x => bnd (gb ρ) fun y => bnd (h x y) fun z => bnd (asB z) fun c => if c then bnd (gc ρ) fun w => h' y w else .ok (.bool false) := rfl
theorem hIsa_int (i : Int) : hIsa .int (.int i) = .ok (.bool true) := rfl
theorem hIsa_intb (i : Int) : hIsa .bool (.int i) = .ok (.bool false) := rfl
theorem hIsa_list (x : List Dt) : hIsa .list (.list x) = .ok (.bool true) := rfl
theorem hIsa_tuple (x : List Dt) : hIsa .tuple (.tuple x) = .ok (.bool true) := rfl
theorem gDrop_def (g : Gd) (ρ : List Dt) : gDrop g ρ = bnd (g ρ) fun _ => .ok (.nx ρ) := rfl
theorem fnN_nx {m : Nat} {g : Gs} {ds ρ : List Dt} (h : g (ds ++ List.replicate (m - ds.length) .none) = .ok (.nx ρ)) : fnN m g ds = .ok .none := by unfold fnN; rw [h]
theorem lsI_ok {gI : List Dt → O (List Dt)} {ρ ds : List Dt} (h : gI ρ = .ok ds) (hl : ds.length ≤ 100000) : gLsI gI ρ = .ok (.list ds) := by unfold gLsI; rw [h, bnd_ok, if_pos hl]
theorem rev_ok {gA : List Dt → O (List Dt)} {ρ es : List Dt} (h : gA ρ = .ok [.list es]) : gRev gA ρ = .ok es.reverse := by unfold gRev; rw [h]; rfl
theorem enum_ok {gA : List Dt → O (List Dt)} {ρ es : List Dt} (h : gA ρ = .ok [.list es]) : gEnum gA ρ = .ok (enumD es) := by unfold gEnum; rw [h]; rfl
theorem zip_ok {gA : List Dt → O (List Dt)} {ρ es fs : List Dt} (h : gA ρ = .ok [.list es, .list fs]) : gZip gA ρ = .ok (zipD es fs) := by unfold gZip; rw [h]; rfl
theorem rng3_ok {g : List Dt → O (List Dt)} {ρ : List Dt} {i j : Int} (h : g ρ = .ok [.int i, .int j, .int (-1)]) (h1 : -4611686018427387904 ≤ j) (h2 : j < 4611686018427387904) (h3 : -4611686018427387904 ≤ i) (h4 : i < 4611686018427387904) : gRng3 g ρ = .ok (downD i j) := by
  unfold gRng3
  rw [h, bnd_ok]
  unfold rng3
  simp only
  rw [if_pos ⟨trivial, by omega, by omega, by omega, by omega⟩]
theorem hAll_b (xs : List Bool) : hAll [.list (xs.map .bool)] = .ok (.bool (xs.all id)) := by
  unfold hAll
  simp only [allB_map]
theorem setI_ok {i : Nat} {ge gi : Gd} {ρ ds : List Dt} {d : Dt} {j : Int} (h1 : ge ρ = .ok d) (h2 : ρ[i]? = some (.list ds)) (h3 : gi ρ = .ok (.int j)) (j0 : 0 ≤ j) (j1 : j < ds.length) : gSetI i ge gi ρ = .ok (.nx (ρ.set i (.list (ds.set j.toNat d)))) := by
  unfold gSetI
  have e : ixN ds.length j = some j.toNat := by
    unfold ixN
    repeat (first | rw [if_pos (by omega)] | rw [if_neg (by omega)])
  rw [h1, bnd_ok, h2]
  simp only
  rw [h3, bnd_ok]
  simp only [e]
theorem enumD_map {α : Type} (f : α → Dt) (xs : List α) : enumD (xs.map f) = (xs.zipIdx.map fun p => .tuple [.int (p.2 : Nat), f p.1]) := by
  unfold enumD
  rw [List.zipIdx_map, List.map_map]
  rfl
theorem zipD_map {α β : Type} (f : α → Dt) (g : β → Dt) (xs : List α) (ys : List β) : zipD (xs.map f) (ys.map g) = ((xs.zip ys).map fun p => .tuple [f p.1, g p.2]) := by
  unfold zipD
  rw [List.zip_map, List.map_map]
  rfl
end Sim
end T_SimI

section T_SimJ
set_option Elab.async false
set_option linter.all false
set_option maxRecDepth 100000
/-! SimJ: dicts of one's own (keys ints or strs), xs[::-1], is of bools. -/
namespace Sim
open PySem PySem.Spec L2
open PyProof.Rows hiding St

/-! ### dicts as data -/
def isK : Key → Dt → Bool
  | .inl i, .int j => decide (j = i)
  | .inr x, .str y => decide (y = x)
  | _, _ => false
def keyOf : Dt → Option Key
  | .int i => some (.inl i)
  | .str x => some (.inr x)
  | _ => none
def dGet (es : List (Dt × Dt)) (k : Key) : Option Dt := (es.find? fun e => isK k e.1).map (·.2)
def dPut (es : List (Dt × Dt)) (k : Key) (v : Dt) : List (Dt × Dt) := if (es.any fun e => isK k e.1) = true then es.map (fun e => if isK k e.1 = true then (e.1, v) else e) else es ++ [(keyD k, v)]
def dDrop (es : List (Dt × Dt)) (k : Key) : List (Dt × Dt) := es.filter fun e => !isK k e.1
section
variable {K : PySem.W.Frag} {F F' : Addr → Prop} {H H' : Hp}
theorem isK_keyD (k k' : Key) : isK k (keyD k') = decide (k' = k) := by
  cases k <;> cases k' <;> simp [isK, keyD]
theorem kV_keyOf {v : V} {d : Dt} {k : Key} (x : Rp K F H v d) (e : keyOf d = some k) : v = kV k := by
  cases x <;> cases e <;> rfl
theorem KvA.length : ∀ {kvs : List (Key × V)} {es : List (Dt × Dt)}, KvA K F H kvs es → kvs.length = es.length
  | _, _, .nil => rfl
  | _, _, .cons _ r => by rw [List.length_cons, List.length_cons, r.length]
theorem KvA.get (k : Key) : ∀ {kvs : List (Key × V)} {es : List (Dt × Dt)}, KvA K F H kvs es → (valV kvs k = none ∧ dGet es k = none) ∨ ∃ v d, valV kvs k = some v ∧ dGet es k = some d ∧ Rp K F H v d
  | _, _, .nil => .inl ⟨rfl, rfl⟩
  | _, _, .cons (k := k') (v := v) (d := d) (kvs := kvs) (es := es) h r => by
    by_cases c : k' = k
    · refine .inr ⟨v, d, valV_pos c, ?_, h⟩
      unfold dGet
      rw [List.find?_cons_of_pos (by rw [isK_keyD]; simpa using c)]
      rfl
    · rw [valV_neg c]
      have e : dGet ((keyD k', d) :: es) k = dGet es k := by
        unfold dGet
        rw [List.find?_cons_of_neg (by rw [isK_keyD]; simpa using c)]
      rw [e]
      exact r.get k
theorem KvA.any (k : Key) : ∀ {kvs : List (Key × V)} {es : List (Dt × Dt)}, KvA K F H kvs es → (kvs.any fun kv => decide (kv.1 = k)) = es.any fun e => isK k e.1
  | _, _, .nil => rfl
  | _, _, .cons h r => by rw [List.any_cons, List.any_cons, r.any k, isK_keyD]
theorem KvA.snoc {k : Key} {v : V} {d : Dt} (x : Rp K F H v d) : ∀ {kvs : List (Key × V)} {es : List (Dt × Dt)}, KvA K F H kvs es → KvA K F H (kvs ++ [(k, v)]) (es ++ [(keyD k, d)])
  | _, _, .nil => .cons x .nil
  | _, _, .cons h r => .cons h (r.snoc x)
theorem KvA.over {k : Key} {v : V} {d : Dt} (x : Rp K F H v d) : ∀ {kvs : List (Key × V)} {es : List (Dt × Dt)}, KvA K F H kvs es → KvA K F H (kvs.map fun kv => if kv.1 = k then (kv.1, v) else kv) (es.map fun e => if isK k e.1 = true then (e.1, d) else e)
  | _, _, .nil => .nil
  | _, _, .cons (k := k') h r => by
    rw [List.map_cons, List.map_cons, isK_keyD]
    by_cases c : k' = k
    · rw [if_pos c, if_pos (by simpa using c)]
      exact .cons x (r.over x)
    · rw [if_neg c, if_neg (by simpa using c)]
      exact .cons h (r.over x)
theorem KvA.put {k : Key} {v : V} {d : Dt} (x : Rp K F H v d) {kvs : List (Key × V)} {es : List (Dt × Dt)} (h : KvA K F H kvs es) : KvA K F H (putK kvs k v) (dPut es k d) := by
  unfold putK dPut
  rw [h.any k]
  split
  · exact h.over x
  · exact h.snoc x
theorem KvA.drop (k : Key) : ∀ {kvs : List (Key × V)} {es : List (Dt × Dt)}, KvA K F H kvs es → KvA K F H (dropK kvs k) (dDrop es k)
  | _, _, .nil => .nil
  | _, _, .cons (k := k') h r => by
    unfold dropK dDrop
    rw [List.filter_cons, List.filter_cons, isK_keyD]
    by_cases c : k' = k
    · rw [if_neg (by simpa using c), if_neg (by simpa using c)]
      exact r.drop k
    · rw [if_pos (by simpa using c), if_pos (by simpa using c)]
      exact .cons h (r.drop k)
end

/-! ### closures -/
def gDNew : Gd := fun _ => .ok (.dict [])
def dAt (ρ : List Dt) (i : Nat) : Option (List (Dt × Dt)) := match ρ[i]? with
  | some (.dict es) => some es
  | _ => none
def gDGet (i : Nat) (gk : Gd) : Gd := fun ρ => match dAt ρ i with
  | some es => bnd (gk ρ) fun kd => (match keyOf kd with
    | some k => (match dGet es k with
      | some d => .ok d
      | none => .bad)
    | none => .bad)
  | none => .bad
def gDIn (neg : Bool) (i : Nat) (gk : Gd) : Gd := fun ρ => bnd (gk ρ) fun kd => match dAt ρ i with
  | some es => (match keyOf kd with
    | some k => .ok (.bool (if neg then !(dGet es k).isSome else (dGet es k).isSome))
    | none => .bad)
  | none => .bad
def gDPut (i : Nat) (gv gk : Gd) : Gs := fun ρ => bnd (gv ρ) fun v => match dAt ρ i with
  | some es => bnd (gk ρ) fun kd => (match keyOf kd with
    | some k => if es.length < 100000 then .ok (.nx (ρ.set i (.dict (dPut es k v)))) else .bad
    | none => .bad)
  | none => .bad
theorem dAt_inv {ρ : List Dt} {i : Nat} {es : List (Dt × Dt)} (h : dAt ρ i = some es) : ρ[i]? = some (.dict es) := by
  unfold dAt at h
  split at h
  · cases h; assumption
  · cases h

section
variable {K : PySem.W.Frag} {W : Wt} {Δ Δb Δc : List Kd} {te ti : TE} {g ge gk : Gd} {fr fr' av : Bool} {L : Lk} {i : Nat}
theorem dk_own {f : Fm} {ρ : List Dt} {σ : L2.St} {H : Hp} {es : List (Dt × Dt)} (r : R K f Δ ρ σ H) (hk : Δ[i]? = some (.own .dk fr)) (h : dAt ρ i = some es) :
    ∃ p kvs, σ[i]? = some (some (V.ref p)) ∧ f.H0 p = none ∧ H p = some (.dK kvs) ∧ KvA K (FM f Δ σ true fr) H kvs es := by
  obtain ⟨p, d, g1, g2, g3, kvs, es', ed, g4, g5⟩ := r.ow i .dk fr hk
  rw [dAt_inv h] at g2
  cases g2
  cases ed
  exact ⟨p, kvs, g1, g3, g4, g5⟩
theorem se_dnew : SE K W Δ tDNewK (.new .dk true) gDNew := fun f ρ σ H Q r q => fun p np => q p _ np (same_upd np) ⟨[], [], rfl, upd_same, .nil⟩
theorem se_dget (hk : Δ[i]? = some (.own .dk fr)) (h : SE K W Δ ti (.v av fr') gk) : SE K W Δ (tDGet (tVar i) ti) (.v true fr) (gDGet i gk) := fun f ρ σ H Q r q => by
  unfold gDGet at q
  cases ed : dAt ρ i with
  | none => rw [ed] at q; exact q.elim
  | some es =>
    rw [ed] at q
    obtain ⟨p, kvs, g1, g3, g4, g5⟩ := dk_own r hk ed
    refine ⟨_, g1, h f ρ σ H _ r ?_⟩
    simp only at q
    cases e2 : gk ρ with
    | bad => rw [e2] at q; exact q
    | ex z => rw [e2] at q; exact q
    | ok kd =>
      rw [e2, bnd_ok] at q
      intro kv H1 s1 xk
      cases ek : keyOf kd with
      | none => rw [ek] at q; exact q.elim
      | some k =>
        rw [ek] at q
        simp only at q
        rw [kV_keyOf xk ek]
        rcases g5.get k with ⟨_, e⟩ | ⟨v, d, e1, e, x⟩
        · rw [e] at q; exact q.elim
        · rw [e] at q
          refine ⟨p, v, rfl, ?_, q v H1 s1 (x.same s1)⟩
          rw [← e1]
          exact DGet.k (s1 _ _ g4)
theorem se_din (neg : Bool) (hk : Δ[i]? = some (.own .dk fr)) (h : SE K W Δ ti (.v av fr') gk) : SE K W Δ (if neg then tDNotIn ti (tVar i) else tDIn ti (tVar i)) (.v true true) (gDIn neg i gk) := fun f ρ σ H Q r q => by
  have key : ti σ H (fun y H1 => tVar i σ H1 fun x H2 => ∃ a o, x = .ref a ∧ DGet H2 a y o ∧ Q (.bl (if neg then !o.isSome else o.isSome)) H2) := by
    refine h f ρ σ H _ r ?_
    unfold gDIn at q
    cases e2 : gk ρ with
    | bad => rw [e2] at q; exact q
    | ex z => rw [e2] at q; exact q
    | ok kd =>
      rw [e2, bnd_ok] at q
      intro kv H1 s1 xk
      cases ed : dAt ρ i with
      | none => rw [ed] at q; exact q.elim
      | some es =>
        rw [ed] at q
        simp only at q
        obtain ⟨p, kvs, g1, g3, g4, g5⟩ := dk_own r hk ed
        cases ek : keyOf kd with
        | none => rw [ek] at q; exact q.elim
        | some k =>
          rw [ek] at q
          simp only at q
          rw [kV_keyOf xk ek]
          refine ⟨_, g1, p, valV kvs k, rfl, DGet.k (s1 _ _ g4), ?_⟩
          have eq : (valV kvs k).isSome = (dGet es k).isSome := by
            rcases g5.get k with ⟨e1, e⟩ | ⟨v, d, e1, e, x⟩ <;> rw [e1, e] <;> rfl
          rw [eq]
          exact q _ H1 s1 (.bl _)
  cases neg with
  | true => exact key
  | false => exact key
theorem s_dput (hk : Δ[i]? = some (.own .dk fr)) (h : SE K W Δ te (.v true fr') ge) (h2 : SE K W Δ ti (.v av av') gk) : SS K W L Δ (Δ.set i (.own .dk (fr && fr'))) Δb Δc (sDPut (tVar i) ti te) (gDPut i ge gk) := fun f ρ σ H E r q => h f ρ σ H _ r <| by
  unfold gDPut at q
  cases e : ge ρ with
  | bad => rw [e] at q; exact q
  | ex z => rw [e] at q; exact fun H' s => q σ H' (r.ext.trans s)
  | ok d =>
    rw [e, bnd_ok] at q
    cases ed : dAt ρ i with
    | none => rw [ed] at q; exact q.elim
    | some es =>
      rw [ed] at q
      simp only at q
      obtain ⟨p, kvs, g1, g3, g4, g5⟩ := dk_own r hk ed
      intro v H1 s x
      refine ⟨_, g1, h2 f ρ σ H1 _ (r.mono s) ?_⟩
      cases e2 : gk ρ with
      | bad => rw [e2] at q; exact q
      | ex z => rw [e2] at q; exact fun H' s2 => q σ H' ((r.ext.trans s).trans s2)
      | ok kd =>
        rw [e2, bnd_ok] at q
        intro kv H2 s2 xk
        cases ek : keyOf kd with
        | none => rw [ek] at q; exact q.elim
        | some k =>
          rw [ek] at q
          simp only at q
          by_cases hl : es.length < 100000
          · rw [if_pos hl] at q
            rw [kV_keyOf xk ek]
            have s12 := s.trans s2
            have hp := s12 _ _ g4
            refine ⟨p, _, rfl, DPut.k hp (by rw [g5.length]; exact Nat.lt_of_lt_of_le hl (by decide)), q σ _ ?_⟩
            refine (r.mono s12).updOwn hk g1 (c' := .dk) (show Mutb (.dK _) from trivial) ⟨_, _, rfl, upd_same, ?_⟩
            have nf : ∀ {fr : Bool} (a : Addr), FM f Δ σ true fr a → a ≠ p := fun a fa z => (fa.1 rfl).1 (z ▸ ⟨i, .dk, _, hk, g1⟩)
            refine KvA.put ((Rp.updM hp trivial (fun a fa => nf a fa) (x.same s2)).weak fun a y => y.weak id fun h => (Bool.and_eq_true_iff.mp h).2) ?_
            exact g5.map fun v d z => (Rp.updM hp trivial (fun a fa => nf a fa) (z.same s12)).weak fun a y => y.weak id fun h => (Bool.and_eq_true_iff.mp h).1
          · rw [if_neg hl] at q
            exact q.elim
def gDPop (i : Nat) (gk : Gd) (hh : Dt → List Dt → O (List Dt)) : Gs := fun ρ => match dAt ρ i with
  | some es => bnd (gk ρ) fun kd => (match keyOf kd with
    | some k => (match dGet es k with
      | some d => (match hh d (ρ.set i (.dict (dDrop es k))) with
        | .ok ρ' => .ok (.nx ρ')
        | _ => .bad)
      | none => .bad)
    | none => .bad)
  | none => .bad
theorem set_self {α : Type} {l : List α} {i : Nat} {a : α} (h : l[i]? = some a) : l.set i a = l := by
  apply List.ext_getElem?
  intro j
  by_cases c : i = j
  · subst c
    rw [List.getElem?_set_self (List.getElem?_eq_some_iff.mp h).1, h]
  · rw [List.getElem?_set_ne c]
theorem s_dpop {gg : TG} {sl : List Nat} {n : Nat} {hh : Dt → List Dt → O (List Dt)} {TK : Bool → List Kd → List Kd} (hn : Δ.length = n) (hk : Δ[i]? = some (.own .dk fr)) (h : SE K W Δ ti (.v av fr') gk) (hg : GJ K n gg sl hh TK) :
    SS K W L Δ (TK fr Δ) Δb Δc (tAsg (tDPop1 (tVar i) ti) gg) (gDPop i gk hh) := fun f ρ σ H E r q => by
  unfold gDPop at q
  cases ed : dAt ρ i with
  | none => rw [ed] at q; exact q.elim
  | some es =>
    rw [ed] at q
    simp only at q
    obtain ⟨p, kvs, g1, g3, g4, g5⟩ := dk_own r hk ed
    refine ⟨_, g1, p, rfl, .inl ⟨kvs, .inl g4⟩, h f ρ σ H _ r ?_⟩
    cases e2 : gk ρ with
    | bad => rw [e2] at q; exact q
    | ex z => rw [e2] at q; exact fun H' s2 => q σ H' (r.ext.trans s2)
    | ok kd =>
      rw [e2, bnd_ok] at q
      intro kv H1 s1 xk
      cases ek : keyOf kd with
      | none => rw [ek] at q; exact q.elim
      | some k =>
        rw [ek] at q
        simp only at q
        rcases g5.get k with ⟨_, e⟩ | ⟨v, d, e1, e, x⟩
        · rw [e] at q; exact q.elim
        · rw [e] at q
          simp only at q
          have hp := s1 _ _ g4
          refine ⟨kvs, k, v, hp, kV_keyOf xk ek, e1, ?_⟩
          have nf : ∀ {fr : Bool} (a : Addr), FM f Δ σ true fr a → a ≠ p := fun a fa z => (fa.1 rfl).1 (z ▸ ⟨i, .dk, _, hk, g1⟩)
          have r2 := (r.mono s1).updOwn hk g1 (c' := .dk) (fr' := fr) (o' := .dK (dropK kvs k)) (show Mutb (.dK _) from trivial) ⟨_, _, rfl, upd_same, (g5.map fun v d z => Rp.updM (o' := .dK (dropK kvs k)) hp trivial (fun a fa => nf a fa) (z.same s1)).drop k⟩
          rw [set_self hk] at r2
          refine hg f Δ _ σ _ v d fr _ hn r2 (Rp.updM hp trivial (fun a fa => nf a fa) (x.same s1)) ?_
          cases e3 : hh d (ρ.set i (.dict (dDrop es k))) with
          | bad => rw [e3] at q; exact q.elim
          | ex z => rw [e3] at q; exact q.elim
          | ok ρ' =>
            rw [e3] at q
            exact fun σ' t => q σ' _ t.r
end
/-! ### rules for a text -/
section
variable {X : Cx} {K : PySem.W.Frag} {W : Wt} {Δ Δb Δc : List Kd} {a b e tg : Expr} {te ti : TE} {g ge gk : Gd} {fr fr' av av' : Bool} {L : Lk} {pos p pos' : Pos} {x : Str} {m : Nat}
theorem x_dnew (hK : X.K = K := by rfl) : PD X K W Δ (.Dict [] [] pos) tDNewK (.new .dk true) gDNew := ⟨pe_dnewK, hK, se_dnew⟩
theorem x_dget (i : Nat) (hr : Room m X.A) (h : PD X K W Δ e te (.v av fr') g) (hk : Δ[i]? = some (.own .dk fr) := by rfl) (hv : Vis X.env.scope x := by first | exact Or.inl rfl | exact Or.inr (Or.inl rfl) | exact Or.inr (Or.inr rfl)) (hN : X.N[i]? = some x := by rfl) (hd : (x == ("__debug__" : Str)) = false := by decide) (hcd : (x == ("__classdict__" : Str)) = false := by decide) (hs : NoSl e := by exact fun _ _ => rfl) :
    PD X K W Δ (.Subscript (.Name x p) e pos) (tDGet (tVar i) te) (.v true fr) (gDGet i g) := ⟨pe_dget (by have := hr.un; omega) (pe_var hN hv hd hcd) h.pe hs, h.hK, se_dget hk h.se⟩
theorem x_din (i : Nat) (hr : Room m X.A) (h : PD X K W Δ e te (.v av fr') g) (hk : Δ[i]? = some (.own .dk fr) := by rfl) (hv : Vis X.env.scope x := by first | exact Or.inl rfl | exact Or.inr (Or.inl rfl) | exact Or.inr (Or.inr rfl)) (hN : X.N[i]? = some x := by rfl) (hd : (x == ("__debug__" : Str)) = false := by decide) (hcd : (x == ("__classdict__" : Str)) = false := by decide) (hm : behindInMarks .In (.Name x p) = false := by rfl) :
    PD X K W Δ (.Compare e [.In] [.Name x p] pos) (tDIn te (tVar i)) (.v true true) (gDIn false i g) := ⟨pe_cmp (pc_din (by have := hr.un; omega) h.pe (pe_var hN hv hd hcd)) hm, h.hK, se_din false hk h.se⟩
theorem x_dnin (i : Nat) (hr : Room m X.A) (h : PD X K W Δ e te (.v av fr') g) (hk : Δ[i]? = some (.own .dk fr) := by rfl) (hv : Vis X.env.scope x := by first | exact Or.inl rfl | exact Or.inr (Or.inl rfl) | exact Or.inr (Or.inr rfl)) (hN : X.N[i]? = some x := by rfl) (hd : (x == ("__debug__" : Str)) = false := by decide) (hcd : (x == ("__classdict__" : Str)) = false := by decide) (hm : behindInMarks .NotIn (.Name x p) = false := by rfl) :
    PD X K W Δ (.Compare e [.NotIn] [.Name x p] pos) (tDNotIn te (tVar i)) (.v true true) (gDIn true i g) := ⟨pe_cmp (pc_dnotin (by have := hr.un; omega) h.pe (pe_var hN hv hd hcd)) hm, h.hK, se_din true hk h.se⟩
theorem c_din (i : Nat) (hr : Room m X.A) (h : PD X K W Δ e te (.v av fr') g) (hk : Δ[i]? = some (.own .dk fr) := by rfl) (hv : Vis X.env.scope x := by first | exact Or.inl rfl | exact Or.inr (Or.inl rfl) | exact Or.inr (Or.inr rfl)) (hN : X.N[i]? = some x := by rfl) (hd : (x == ("__debug__" : Str)) = false := by decide) (hcd : (x == ("__classdict__" : Str)) = false := by decide) (hm : behindInMarks .In (.Name x p) = false := by rfl) :
    TD X K W Δ (.Compare e [.In] [.Name x p] pos) (tB (tDIn te (tVar i))) (gTest (gDIn false i g)) := ⟨pt_cmp (pc_din (by have := hr.un; omega) h.pe (pe_var hN hv hd hcd)) hm, h.hK, st_B (se_din false hk h.se)⟩
theorem c_dnin (i : Nat) (hr : Room m X.A) (h : PD X K W Δ e te (.v av fr') g) (hk : Δ[i]? = some (.own .dk fr) := by rfl) (hv : Vis X.env.scope x := by first | exact Or.inl rfl | exact Or.inr (Or.inl rfl) | exact Or.inr (Or.inr rfl)) (hN : X.N[i]? = some x := by rfl) (hd : (x == ("__debug__" : Str)) = false := by decide) (hcd : (x == ("__classdict__" : Str)) = false := by decide) (hm : behindInMarks .NotIn (.Name x p) = false := by rfl) :
    TD X K W Δ (.Compare e [.NotIn] [.Name x p] pos) (tB (tDNotIn te (tVar i))) (gTest (gDIn true i g)) := ⟨pt_cmp (pc_dnotin (by have := hr.un; omega) h.pe (pe_var hN hv hd hcd)) hm, h.hK, st_B (se_din true hk h.se)⟩
theorem z_dput (i : Nat) (hr : Room m X.A) (h : PD X K W Δ e te (.v true fr') ge) (h2 : PD X K W Δ b ti (.v av av') gk) (hk : Δ[i]? = some (.own .dk fr) := by rfl) (hv : Vis X.env.scope x := by first | exact Or.inl rfl | exact Or.inr (Or.inl rfl) | exact Or.inr (Or.inr rfl)) (hN : X.N[i]? = some x := by rfl) (hd : (x == ("__debug__" : Str)) = false := by decide) (hcd : (x == ("__classdict__" : Str)) = false := by decide) (hs : swapsWith e (some (.Subscript (.Name x p) b pos')) pos.line X.env = pure false := by rfl) :
    SD X K W L Δ (Δ.set i (.own .dk (fr && fr'))) Δb Δc (.Assign [.Subscript (.Name x p) b pos'] e pos) (sDPut (tVar i) ti te) (gDPut i ge gk) := ⟨ps_dput (by have := hr.un; omega) (pe_var hN hv hd hcd) h2.pe h.pe hs, h.hK, s_dput hk h.se h2.se⟩
theorem z_dpop (i : Nat) {n : Nat} {gg : TG} {sl : List Nat} {hh : Dt → List Dt → O (List Dt)} {TK : Bool → List Kd → List Kd} {apos cpos : Pos} (h : PD X K W Δ e ti (.v av fr') gk) (hg : GD X K n tg gg sl hh TK) (hk : Δ[i]? = some (.own .dk fr) := by rfl) (hv : Vis X.env.scope x := by first | exact Or.inl rfl | exact Or.inr (Or.inl rfl) | exact Or.inr (Or.inr rfl)) (hN : X.N[i]? = some x := by rfl) (hd : (x == ("__debug__" : Str)) = false := by decide) (hcd : (x == ("__classdict__" : Str)) = false := by decide) (hn : Δ.length = n := by rfl)
    (m1 : attributeBase (.Name x p) "pop" X.env (eval (.Name x p) X.env) = eval (.Name x p) X.env := by rfl)
    (m2 : ((backTo cpos (starEach [e] X.env)).all (fun x => !x.1) && (backToKw cpos (keywordEach [] X.env)).all (fun x => x.1.isSome) && decide (([e] : List Expr).length + ([] : List Keyword).length + (if ([] : List Keyword).isEmpty then 0 else 1) < 30)) = true := by rfl)
    (m3 : (apos.endLine == cpos.line) = true := by rfl) (m4 : backTo cpos (starEach [e] X.env) = [(false, eval e X.env)] := by rfl)
    (hs : swapsWithSole [tg] (.Call (.Attribute (.Name x p) "pop" apos) [e] [] cpos) pos.line X.env = pure false := by rfl) (hw : swappedStores [tg] (.Call (.Attribute (.Name x p) "pop" apos) [e] [] cpos) X.env = pure none := by rfl) (h1 : (assignEach [tg] X.env).map (·.2) = [assign tg X.env] := by rfl) :
    SD X K W L Δ (TK fr Δ) Δb Δc (.Assign [tg] (.Call (.Attribute (.Name x p) "pop" apos) [e] [] cpos) pos) (tAsg (tDPop1 (tVar i) ti) gg) (gDPop i gk hh) :=
  ⟨ps_asg (pe_dpop1 (pe_var hN hv hd hcd) h.pe ⟨m1, m2, m3, m4⟩) hg.pg hs hw h1, h.hK, s_dpop hn hk h.se hg.gj⟩

/-! ### xs[::-1] -/
def hRevL : Dt → O Dt := fun d => match d with
  | .list ds => .ok (.list ds.reverse)
  | _ => .bad
theorem se_revL (ha : SE K W Δ te (.v true fr) g) : SE K W Δ (tRevL K te) (.new .l fr) (gUn hRevL g) := fun f ρ σ H Q R q => by
  refine ha f ρ σ H _ R ?_
  unfold gUn at q
  cases e1 : g ρ with
  | bad => rw [e1] at q; exact q
  | ex z => rw [e1] at q; exact q
  | ok d =>
    rw [e1, bnd_ok] at q
    intro v H1 s1 x1
    cases d with
    | list es =>
      obtain ⟨c, xs, rfl, hs, r⟩ := x1.sql
      exact ⟨c, xs, rfl, hs, fun p np => q p _ (s1.free np) (s1.trans (same_upd np)) ⟨_, _, rfl, upd_same, r.reverse.mono (same_upd np) fun a y z => ⟨y, fun e => z (e ▸ np)⟩⟩⟩
    | _ => exact q.elim
theorem se_revLO (ha : SE K W Δ te (.o fr) g) : SE K W Δ (tRevL K te) (.new .l fr) (gUn hRevL g) := fun f ρ σ H Q R q => by
  refine ha f ρ σ H _ R ?_
  unfold gUn at q
  cases e1 : g ρ with
  | bad => rw [e1] at q; exact q
  | ex z => rw [e1] at q; exact q
  | ok d =>
    rw [e1, bnd_ok] at q
    intro p H1 vs ds ed s1 hp gp x1
    subst ed
    exact ⟨p, vs, rfl, .inl (.inl hp), fun p np => q p _ (s1.free np) (s1.trans (same_upd np)) ⟨_, _, rfl, upd_same, x1.reverse.mono (same_upd np) fun a y z => ⟨y, fun e => z (e ▸ np)⟩⟩⟩
theorem x_revL {k : Nat} {p1 p2 p3 : Pos} (h : PD X K W Δ e te (.v true fr) g) : PD X K W Δ (.Subscript e (.Slice none none (some (.UnaryOp .USub (.Constant (.int 1) k p1) p2)) p3) pos) (tRevL K te) (.new .l fr) (gUn hRevL g) := ⟨by have q := pe_revL (X := X) (k := k) (p1 := p1) (p2 := p2) (p3 := p3) (pos := pos) h.pe; rw [h.hK] at q; exact q, h.hK, se_revL h.se⟩
theorem x_revLO {k : Nat} {p1 p2 p3 : Pos} (h : PD X K W Δ e te (.o fr) g) : PD X K W Δ (.Subscript e (.Slice none none (some (.UnaryOp .USub (.Constant (.int 1) k p1) p2)) p3) pos) (tRevL K te) (.new .l fr) (gUn hRevL g) := ⟨by have q := pe_revL (X := X) (k := k) (p1 := p1) (p2 := p2) (p3 := p3) (pos := pos) h.pe; rw [h.hK] at q; exact q, h.hK, se_revLO h.se⟩

/-! ### is True, is not True -/
def hIsB : Dt → Dt → O Dt := fun d e => match d, e with
  | .bool a, .bool b => .ok (.bool (decide (a = b)))
  | _, _ => .bad
def hNotB : Dt → Dt → O Dt := fun d e => match d, e with
  | .bool a, .bool b => .ok (.bool (!decide (a = b)))
  | _, _ => .bad
theorem scl_isB : Scl2 hIsB := fun d e => by cases d <;> cases e <;> first | exact .inr rfl | exact .inl ⟨_, rfl, rfl⟩
theorem scl_notB : Scl2 hNotB := fun d e => by cases d <;> cases e <;> first | exact .inr rfl | exact .inl ⟨_, rfl, rfl⟩
theorem osc_isB : OSc K rIsB hIsB := fun H x y d e Q hx hy h => by
  cases hx <;> cases hy <;> first | exact h.elim | exact ⟨_, _, rfl, rfl, h.2 _ (.bl _)⟩
theorem osc_notB : OSc K rNotB hNotB := fun H x y d e Q hx hy h => by
  cases hx <;> cases hy <;> first | exact h.elim | exact ⟨_, _, rfl, rfl, h.2 _ (.bl _)⟩
theorem or_isB : OR X K .Is rIsB hIsB := ⟨op_isBl, scl_isB, osc_isB⟩
theorem or_notB : OR X K .IsNot rNotB hNotB := ⟨op_notBl, scl_notB, osc_notB⟩
end
/-! ### len(set(ints)) -/
def ddp (ns : List Int) : List Int := firstMet (fun i => ns.getD i 0) ns.length
theorem firstMet_le (val : Nat → Int) : ∀ i, (firstMet val i).length ≤ i
  | 0 => Nat.le_refl _
  | i + 1 => by
    rw [firstMet_succ]
    have := firstMet_le val i
    unfold step_dedup
    split
    · omega
    · rw [List.length_append, List.length_singleton]; omega
def tLenSetG (K : PySem.W.Frag) (ta : TE) : TE := fun σ H Q => ta σ H fun x H1 => ∃ (l : Addr) (ns : List Int), x = V.ref l ∧ SqL K H1 l (ns.map V.int) ∧ ns.length < 64 ∧ Q (.int (ddp ns).length) H1
def hLenSet : Dt → O Dt := fun d => match d with
  | .list xs => match allI xs with
    | some ns => if ns.length < 64 then .ok (.int (ddp ns).length) else .bad
    | none => .bad
  | _ => .bad
section
variable {X : Cx} {K : PySem.W.Frag} {W : Wt} {Δ : List Kd} {a : Expr} {ta te : TE} {g : Gd} {av fr : Bool} {p p2 q pos : Pos}
theorem pe_lenSetG (hc : X.calm = true) (hg : Gl X "len") (hm : X.mg "len" = none) (hg2 : Gl X "set") (hm2 : X.mg "set" = none) (ha : PE X a ta)
    (na : starEach [a] X.env = (false, eval a X.env) :: starEach [] X.env := by rfl) : PE X (.Call (.Name "len" p) [.Call (.Name "set" p2) [a] [] q] [] pos) (tLenSetG X.K ta) := by
  refine ⟨fun pins s σ H Q I h => ?_⟩
  refine Call_ (ld_blt I hg hm PySem.boot_len ?_)
  refine PyProof.Rows.callWith_builtin1 (PyProof.Rows.args_cons ?_ rfl) rfl rfl
  refine Call_ (ld_blt I hg2 hm2 PyProof.Rows.boot_set ?_)
  refine PyProof.Rows.callWith_type1 (PyProof.Rows.args_cons (thn (ha.run pins s σ H _ I h) fun v s1 ⟨x, H1, I1, r1, q1⟩ => PyProof.Rows.args_nil ?_) na) na rfl
  obtain ⟨l, ns, rfl, hq, h1, q1⟩ := q1
  cases r1
  obtain ⟨its, r, pl, hz⟩ := I1.list hq
  have hl : its.toArray.size = ns.length := by rw [List.size_toArray, ← r.length, List.length_map]
  refine call_set_list (I1.ok.hd hc) pl.isList (ns := ns) (by simpa using r.ints) (by unfold scanBound; omega) fun h' tk hS hk => ?_
  rw [hl] at hS
  have hd := firstMet_le (fun i => ns.getD i 0) ns.length
  refine PyProof.Rows.args_nil ?_
  obtain ⟨o, es, ep, t, ho, hex, hd', _, _, _, hf, hn⟩ := hS
  have I2 : Inv X pins σ H1 { s1 with heap := h', toks := tk } := I1.kept fun b o e => hk b o (Heap.lt_size e) e
  refine call_len_set ho hex hd' hf (by rw [hn] <;> omega) ⟨.int (ddp ns).length, H1, I2.tok _, ⟨_, by rw [hn] <;> rfl⟩, q1⟩
theorem se_lenSet (ha : SE K W Δ te (.v av fr) g) : SE K W Δ (tLenSetG K te) (.v true true) (gUn hLenSet g) := fun f ρ σ H Q R q => by
  refine ha f ρ σ H _ R ?_
  unfold gUn at q
  cases e1 : g ρ with
  | bad => rw [e1] at q; exact q
  | ex z => rw [e1] at q; exact q
  | ok d =>
    rw [e1, bnd_ok] at q
    intro v H1 s1 x1
    cases d with
    | list es =>
      unfold hLenSet at q
      simp only at q
      cases ea : allI es with
      | none => rw [ea] at q; exact q.elim
      | some ns =>
        rw [ea] at q
        simp only at q
        by_cases hl : ns.length < 64
        · rw [if_pos hl] at q
          obtain ⟨c, xs, rfl, hs, r⟩ := x1.sql
          rw [rp_ints r ea] at hs
          exact ⟨c, ns, rfl, hs, hl, q _ H1 s1 (.int _)⟩
        · rw [if_neg hl] at q
          exact q.elim
    | _ => exact q.elim
theorem x_lenSet (hm : X.mg "len" = none) (hm2 : X.mg "set" = none) (h : PD X K W Δ a te (.v av fr) g) (hc : X.calm = true := by rfl) (hg : Gl X "len" := by rfl) (hg2 : Gl X "set" := by rfl) (na : starEach [a] X.env = (false, eval a X.env) :: starEach [] X.env := by rfl) :
    PD X K W Δ (.Call (.Name "len" p) [.Call (.Name "set" p2) [a] [] q] [] pos) (tLenSetG K te) (.v true true) (gUn hLenSet g) := ⟨by have w := pe_lenSetG (X := X) (p := p) (p2 := p2) (q := q) (pos := pos) hc hg hm hg2 hm2 h.pe na; rw [h.hK] at w; exact w, h.hK, se_lenSet h.se⟩
end
theorem ddp_nodup {ns : List Int} : (ddp ns).length = ns.length ↔ ns.Nodup := by
  unfold ddp
  constructor
  · intro h
    have key : ∀ i, i ≤ ns.length → (firstMet (fun i => ns.getD i 0) i).length = i → firstMet (fun i => ns.getD i 0) i = ns.take i ∧ (ns.take i).Nodup := by
      intro i
      induction i with
      | zero => intro _ _; exact ⟨rfl, List.nodup_nil⟩
      | succ i ih =>
        intro hi hl
        have hlt : i < ns.length := hi
        rw [firstMet_succ] at hl ⊢
        have hle := firstMet_le (fun i => ns.getD i 0) i
        unfold step_dedup at hl ⊢
        by_cases c : ((firstMet (fun i => ns.getD i 0) i).any (· == ns.getD i 0)) = true
        · rw [if_pos c] at hl; omega
        · rw [if_neg c] at hl ⊢
          rw [List.length_append, List.length_singleton] at hl
          obtain ⟨e1, e2⟩ := ih (by omega) (by omega)
          rw [e1] at c ⊢
          have e : ns.getD i 0 = ns[i] := by rw [List.getD_eq_getElem?_getD, List.getElem?_eq_getElem hlt] <;> rfl
          rw [e] at c ⊢
          have et : ns.take (i + 1) = ns.take i ++ [ns[i]] := by rw [List.take_add_one, List.getElem?_eq_getElem hlt] <;> rfl
          rw [et]
          refine ⟨rfl, ?_⟩
          rw [List.nodup_append]
          refine ⟨e2, by simp, fun x hx y hy => ?_⟩
          rw [List.mem_singleton.mp hy]
          intro z
          subst z
          exact c (List.any_eq_true.mpr ⟨_, hx, by simp⟩)
    obtain ⟨_, e⟩ := key ns.length (Nat.le_refl _) h
    rwa [List.take_length] at e
  · intro h
    rw [L2.firstMet_nodup ns h ns.length (Nat.le_refl _), List.take_length]
end Sim
end T_SimJ

section T_SimS
set_option Elab.async false
set_option linter.all false
set_option maxRecDepth 100000
/-! SimS: sorted(list of tuples of ints), sorted(set(..)) of such and of ints: the hand layer's rules. -/
namespace Sim
/-- the order of lists of ints -/
def lxLt : List Int → List Int → Bool
  | _, [] => false
  | [], _ :: _ => true
  | x :: xs, y :: ys => if x = y then lxLt xs ys else decide (x < y)
theorem lxLt_cons (x y : Int) (xs ys : List Int) : lxLt (x :: xs) (y :: ys) = if x = y then lxLt xs ys else decide (x < y) := rfl
theorem lxLt_irr : ∀ xs : List Int, lxLt xs xs = false
  | [] => rfl
  | x :: xs => by rw [lxLt_cons, if_pos rfl, lxLt_irr xs]
theorem lxLt_trans : ∀ {xs ys zs : List Int}, lxLt xs ys = true → lxLt ys zs = true → lxLt xs zs = true
  | [], [], _, h, _ => by cases h
  | _ :: _, [], _, h, _ => by cases h
  | _, _ :: _, [], _, h => by cases h
  | [], _ :: _, _ :: _, _, _ => rfl
  | x :: xs, y :: ys, z :: zs, h, k => by
    rw [lxLt_cons] at h k ⊢
    by_cases e1 : x = y
    · rw [if_pos e1] at h
      subst e1
      by_cases e2 : x = z
      · rw [if_pos e2] at k ⊢
        exact lxLt_trans h k
      · rw [if_neg e2] at k ⊢
        exact k
    · rw [if_neg e1, decide_eq_true_eq] at h
      by_cases e2 : y = z
      · subst e2
        rw [if_neg e1, decide_eq_true_eq]
        exact h
      · rw [if_neg e2, decide_eq_true_eq] at k
        rw [if_neg (by omega), decide_eq_true_eq]
        omega
theorem lxLt_tri : ∀ {xs ys : List Int}, lxLt xs ys = false → lxLt ys xs = false → xs = ys
  | [], [], _, _ => rfl
  | [], _ :: _, h, _ => by cases h
  | _ :: _, [], _, h => by cases h
  | x :: xs, y :: ys, h, k => by
    rw [lxLt_cons] at h k
    by_cases e : x = y
    · rw [if_pos e] at h
      rw [if_pos e.symm] at k
      rw [e, lxLt_tri h k]
    · rw [if_neg e, decide_eq_false_iff_not] at h
      rw [if_neg (fun z => e z.symm), decide_eq_false_iff_not] at k
      omega
/-- how many of L are less -/
def lrk (L : List (List Int)) (ns : List Int) : Int := ((L.countP fun u => lxLt u ns) : Nat)
theorem count_le {α : Type} {f g : α → Bool} (h : ∀ u, f u = true → g u = true) : ∀ L : List α, L.countP f ≤ L.countP g
  | [] => Nat.le_refl _
  | x :: L => by
    have ih := count_le h L
    rw [List.countP_cons, List.countP_cons]
    cases e : f x with
    | true => rw [h x e]; simp; exact ih
    | false => simp; omega
theorem count_lt {α : Type} {f g : α → Bool} (h : ∀ u, f u = true → g u = true) {p : α} (h1 : f p = false) (h2 : g p = true) : ∀ L : List α, p ∈ L → L.countP f < L.countP g
  | x :: L, hp => by
    rw [List.countP_cons, List.countP_cons]
    rcases List.mem_cons.mp hp with e | hp
    · subst e
      have ih := count_le h L
      rw [h1, h2]
      simp
      omega
    · have ih := count_lt h h1 h2 L hp
      cases e : f x with
      | true => rw [h x e]; simp; exact ih
      | false => simp; omega
theorem lrk_lt {L : List (List Int)} {p q : List Int} (hp : p ∈ L) (hq : q ∈ L) : decide (lrk L p < lrk L q) = lxLt p q := by
  unfold lrk
  cases e : lxLt p q with
  | true =>
    rw [decide_eq_true_eq]
    have := count_lt (f := fun u => lxLt u p) (g := fun u => lxLt u q) (fun u h => lxLt_trans h e) (lxLt_irr p) e L hp
    omega
  | false =>
    rw [decide_eq_false_iff_not]
    cases e2 : lxLt q p with
    | true =>
      have := count_lt (f := fun u => lxLt u q) (g := fun u => lxLt u p) (fun u h => lxLt_trans h e2) (lxLt_irr q) e2 L hq
      omega
    | false =>
      rw [lxLt_tri e e2]
      omega
theorem lift_perm_to {α β : Type} (f : α → β) : ∀ {ys zs : List β}, ys.Perm zs → ∀ L : List α, zs = L.map f → ∃ L' : List α, L'.Perm L ∧ ys = L'.map f := by
  intro ys zs h
  induction h with
  | nil =>
    intro L e
    have : L = [] := List.map_eq_nil_iff.mp e.symm
    subst this
    exact ⟨[], List.Perm.refl _, rfl⟩
  | cons x _ ih =>
    intro L e
    cases L with
    | nil => cases e
    | cons a L =>
      rw [List.map_cons] at e
      injection e with e1 e2
      obtain ⟨L', h1, h2⟩ := ih L e2
      exact ⟨a :: L', h1.cons a, by rw [List.map_cons, e1, h2]⟩
  | swap x y l =>
    intro L e
    cases L with
    | nil => cases e
    | cons a L =>
      cases L with
      | nil => rw [List.map_cons, List.map_nil] at e; injection e with e1 e2; cases e2
      | cons b L =>
        rw [List.map_cons, List.map_cons] at e
        injection e with e1 e2
        injection e2 with e2 e3
        exact ⟨b :: a :: L, List.Perm.swap .., by rw [List.map_cons, List.map_cons, e1, e2, e3]⟩
  | trans _ _ ih1 ih2 =>
    intro L e
    obtain ⟨L2, h1, h2⟩ := ih2 L e
    obtain ⟨L3, h3, h4⟩ := ih1 L2 h2
    exact ⟨L3, h3.trans h1, h4⟩
end Sim
namespace TS
open PySem PyProof.Rows Sim
section
variable {prog : Program} {w : World} {A : Around} {E : Value → Shared → Prop} {s : Shared} {Q : Bool → Shared → Prop}
theorem lex_gen {b : Bool} {xs ys : List Value} {ns ms : List Int} (i : Nat) (hx : IntsAre xs ns) (hy : IntsAre ys ms) (h : Q (lxLt ns ms) s) : PySem.W.KatLex prog w A b (decide (ns.length < ms.length)) Q (xs.zip ys) i s := by
  induction hx generalizing ys ms i with
  | nil =>
    cases hy with
    | nil => exact PySem.W.kat_nil h
    | cons q u hy => exact PySem.W.kat_nil (by rw [show decide (([] : List Int).length < (q :: _).length) = true by simp]; exact h)
  | @cons p t xs ns hx ih =>
    cases hy with
    | nil => exact PySem.W.kat_nil (by rw [show decide ((p :: ns).length < ([] : List Int).length) = false by simp]; exact h)
    | @cons q u ys ms hy =>
      have e0 : decide ((p :: ns).length < (q :: ms).length) = decide (ns.length < ms.length) := by simp
      rw [e0]
      show PySem.W.KatLex prog w A b _ Q ((Value.int p t, Value.int q u) :: xs.zip ys) i s
      rw [lxLt_cons] at h
      refine PySem.W.kat_cons (wpAny_eqBool_int ?_)
      by_cases e : p = q
      · rw [if_pos e] at h
        subst e
        rw [beq_self_eq_true]
        exact PySem.W.kat_yes (ih (i + 1) hy h)
      · rw [if_neg e] at h
        rw [show (p == q) = false from beq_eq_false_iff_ne.mpr e]
        exact PySem.W.kat_no (oneLt_ints _ h)
end
/-- tuples of ints, none empty -/
def TupsL (h : Heap) (vs : List Value) : Prop := ∀ v, v ∈ vs → ∃ ns, TupInts h v ns ∧ ns ≠ []
theorem TupsL.keeps {h h' : Heap} {vs : List Value} (x : TupsL h vs) (k : ∀ b o, h.get? b = some o → o.cls = .type "tuple" → h'.get? b = some o) : TupsL h' vs := fun v hv =>
  let ⟨ns, t, r⟩ := x v hv; ⟨ns, t.keeps k, r⟩
theorem firsts_lex {h : Heap} : ∀ vs : List Value, TupsL h vs → ∃ fs, PySem.W.KatTups h vs fs ∧ fs.length = vs.length ∧ ∀ f, f ∈ fs → ∃ n t, f = Value.int n t
  | [], _ => ⟨[], PySem.W.KatTups.nil, rfl, fun f hf => by simp at hf⟩
  | v :: vs, x => by
    obtain ⟨fs, k, hl, hi⟩ := firsts_lex vs fun u hu => x u (List.mem_cons_of_mem _ hu)
    obtain ⟨ns, ⟨a, xs, rfl, ⟨o, ho, hc, n, hdt⟩, i⟩, hn⟩ := x v (List.mem_cons_self ..)
    obtain ⟨y, ys, e⟩ : ∃ y ys, xs.toList = y :: ys := by
      cases q : xs.toList with
      | nil =>
        rw [q] at i
        cases i
        exact absurd rfl hn
      | cons y ys => exact ⟨y, ys, rfl⟩
    obtain ⟨m, t, hy⟩ := i.all y (by rw [e]; exact List.mem_cons_self ..)
    refine ⟨y :: fs, PySem.W.KatTups.cons ho hc hdt ?_ k, by simp [hl], fun f hf => ?_⟩
    · have z := congrArg (fun l : List Value => l[0]?) e
      simpa using z
    · rcases List.mem_cons.mp hf with rfl | hf
      · exact ⟨m, t, hy⟩
      · exact hi f hf
section
variable {prog : Program} {w : World} {A : Around} {E : Value → Shared → Prop} {s : Shared}
theorem kind_lex {vs : List Value} (h2 : 2 ≤ vs.length) (x : TupsL s.heap vs) (r : Value → Int) (hr : ∀ v, v ∈ vs → ∀ u, u ∈ vs → ∀ ns ms, TupInts s.heap v ns → TupInts s.heap u ms → decide (r v < r u) = lxLt ns ms) (Q : SortKind → Shared → Prop)
    (h : ∀ κ, Cmp prog w A s κ (pairsOf vs) r → Q κ s) : wpAny (model prog w) A (keyKind' vs.toArray) Q E s := by
  obtain ⟨fs, k, hl, hi⟩ := firsts_lex vs x
  refine PySem.W.kat_kind (T := Value.type "int") k (by omega) (fun f hf => ?_) rfl (h _ fun p q hp hq Q' E' hQ => ?_)
  · obtain ⟨n, t, rfl⟩ := hi f hf
    exact PySem.W.Looks.of_pure rfl
  · rw [pairsOf_toList] at hp hq
    obtain ⟨ns, tp, _⟩ := x _ (mem_zip_self hp).2
    obtain ⟨ms, tq, _⟩ := x _ (mem_zip_self hq).2
    have hQ' : Q' (lxLt ns ms) s := by
      rw [← hr _ (mem_zip_self hp).2 _ (mem_zip_self hq).2 ns ms tp tq]
      exact hQ
    obtain ⟨a, xs, e1, ⟨o, ho, hc, n, hdt⟩, i⟩ := tp
    obtain ⟨a', ys, e2, ⟨o', ho', hc', n', hdt'⟩, i'⟩ := tq
    rw [e1, e2]
    refine PySem.W.kat_lt ho hdt ho' hdt' ?_
    have l1 := i.length
    have l2 := i'.length
    rw [Array.length_toList] at l1 l2
    rw [l1, l2]
    exact lex_gen 0 i i' hQ'
/-- the sort of a list of tuples of ints -/
theorem sort_lex {a : Addr} {vs : List Value} {n : Nat} {P : PySem.Fin → Shared → Prop} (ho : s.heap.get? a = some (seqObj "list" vs.toArray n)) (h64 : vs.length < 64) (x : TupsL s.heap vs)
    (h : ∀ out : Array Value, out.toList.Perm vs → out.toList.Pairwise (fun u v => lxLt (intsOf s.heap v) (intsOf s.heap u) = false) → P (.done (.ret .none)) { s with heap := sortedHeap s.heap a vs out }) :
    wpAny (model prog w) A (Builtin.«list.sort» ⟨[.ref a], []⟩) P E s := by
  have keep : ∀ b o, s.heap.get? b = some o → o.cls = .type "tuple" → (midHeap s.heap a vs).get? b = some o := fun b o e hc => by
    refine midHeap_old ?_ e
    rintro rfl
    rw [ho] at e
    cases Option.some.inj e
    exact absurd hc (by simp [seqObj])
  have mem : ∀ v, v ∈ vs → intsOf s.heap v ∈ vs.map (intsOf s.heap) := fun v hv => List.mem_map.mpr ⟨v, hv, rfl⟩
  refine SK.plain_sort (r := fun v => lrk (vs.map (intsOf s.heap)) (intsOf s.heap v)) ho h64 (fun h2 Q hQ => ?_) fun ps out h1 h2 h3 => ?_
  · refine kind_lex (s := { s with heap := midHeap s.heap a vs }) h2 (x.keeps keep) _ (fun v hv u hu ns ms tv tu => ?_) Q hQ
    obtain ⟨ns0, t0, _⟩ := x v hv
    obtain ⟨ms0, t1, _⟩ := x u hu
    have e : ns = ns0 := tv.ints.symm.trans (t0.keeps keep).ints
    have e' : ms = ms0 := tu.ints.symm.trans (t1.keeps keep).ints
    rw [e, e', ← t0.ints, ← t1.ints]
    exact lrk_lt (mem v hv) (mem u hu)
  · obtain ⟨p, o⟩ := out_rank (r := fun v => lrk (vs.map (intsOf s.heap)) (intsOf s.heap v)) h1 h2 h3
    refine h out p (List.Pairwise.imp_of_mem (fun {u v} hu hv hle => ?_) o)
    rw [← lrk_lt (mem v (p.mem_iff.mp hv)) (mem u (p.mem_iff.mp hu)), decide_eq_false_iff_not]
    omega
theorem call_sort_lex {a : Addr} {vs : List Value} {n : Nat} {Q : Value → Shared → Prop} (ho : s.heap.get? a = some (seqObj "list" vs.toArray n)) (h64 : vs.length < 64) (x : TupsL s.heap vs)
    (h : ∀ out : Array Value, out.toList.Perm vs → out.toList.Pairwise (fun u v => lxLt (intsOf s.heap v) (intsOf s.heap u) = false) → Q .none { s with heap := sortedHeap s.heap a vs out }) :
    wpAny (model prog w) A (call (.builtin "list.sort") [.ref a]) Q E s :=
  wpAny_call_entry slot_list_sort ⟨_, ho, rfl⟩ entry_list_sort (sort_lex ho h64 x fun out h1 h2 => ⟨_, rfl, h out h1 h2⟩) (args_list_sort _)
theorem sorted_lex {l : Addr} {vs : List Value} {Q : Value → Shared → Prop} (hl : s.heap.IsList l vs.toArray) (h64 : vs.length < 64) (x : TupsL s.heap vs)
    (h : ∀ out : Array Value, out.toList.Perm vs → out.toList.Pairwise (fun u v => lxLt (intsOf s.heap v) (intsOf s.heap u) = false) → Q (.ref (s.heap.objs.size + 1)) { s with heap := sortedAll s.heap vs out }) :
    wpAny (model prog w) A (call (.builtin "sorted") [.ref l]) Q E s := by
  refine Calls.call_function_entry kind_sorted plain_sorted entry_sorted (args_sorted1 _) ?_
  unfold Builtin.«sorted»
  refine wpAny_bind (m := checkCount "sorted" 1 1 _) (wpAny_pure ?_)
  refine wpAny_bind (collect_list hl ?_ (by rw [sizeLine_eq]; omega))
  refine wpAny_bind (wpAny_newList ?_ (by rw [sizeLine_eq]; omega))
  have hsz : ((s.heap.push (seqObj "list" #[] 0)).update s.heap.objs.size (Obj.mapSeq (· ++ vs.toArray))).objs.size = s.heap.objs.size + 1 := by rw [Heap.size_update, size_push']
  have hoL : (((s.heap.push (seqObj "list" #[] 0)).update s.heap.objs.size (Obj.mapSeq (· ++ vs.toArray))).push (seqObj "list" vs.toArray 0)).get? (s.heap.objs.size + 1) = some (seqObj "list" vs.toArray 0) := by rw [← hsz]; exact Heap.get?_push_size _ rfl
  have keep : ∀ b o, s.heap.get? b = some o → o.cls = .type "tuple" → (((s.heap.push (seqObj "list" #[] 0)).update s.heap.objs.size (Obj.mapSeq (· ++ vs.toArray))).push (seqObj "list" vs.toArray 0)).get? b = some o := fun b o q _ => by
    have hlt : b < s.heap.objs.size := Heap.lt_size q
    rw [Heap.get?_push_ne _ _ _ (by rw [hsz]; exact Nat.ne_of_lt (Nat.lt_succ_of_lt hlt)), Heap.get?_update_ne _ _ _ _ (Nat.ne_of_lt hlt), Heap.get?_push_ne _ _ _ (Nat.ne_of_lt hlt)]
    exact q
  show wpAny _ _ _ _ _ { s with heap := ((s.heap.push (seqObj "list" #[] 0)).update s.heap.objs.size (Obj.mapSeq (· ++ vs.toArray))).push (seqObj "list" vs.toArray 0) }
  rw [hsz]
  refine wpAny_bind (wpAny_holding (wpAny_call_entry slot_list_sort ⟨_, hoL, rfl⟩ entry_list_sort (sort_lex hoL h64 (x.keeps keep) fun out a1 a2 => ⟨_, rfl, ?_⟩) (args_list_sort _)))
  refine wpAny_pure ⟨_, rfl, h out a1 (List.Pairwise.imp_of_mem (fun {u v} hu hv hlt => ?_) a2)⟩
  have one : ∀ v, v ∈ out.toList → intsOf (((s.heap.push (seqObj "list" #[] 0)).update s.heap.objs.size (Obj.mapSeq (· ++ vs.toArray))).push (seqObj "list" vs.toArray 0)) v = intsOf s.heap v := fun v hv => by
    obtain ⟨ns, t, _⟩ := x v (a1.mem_iff.mp hv)
    rw [(t.keeps keep).ints, t.ints]
  rw [← one v hv, ← one u hu]
  exact hlt
end
end TS
end T_SimS

section T_SimT
set_option Elab.async false
set_option linter.all false
set_option maxRecDepth 100000
/-! SimT: sorted(set(list)), sorted(list) of tuples; tuple(range): rules and closures. -/
namespace L2
open PySem PySem.Spec PyProof.Rows Sim
section
variable {P : Program} {w : World} {A : Around} {E : Value → Shared → Prop} {s : Shared}
abbrev freshSet (w : World) : Obj := { cls := .type "set", dict := none, data := .set #[] 0 (.fresh 0 0 (!w.params.followText "set-order")) }
set_option maxHeartbeats 3200000 in
/-- set(xs), xs a list of ints: as the walk over a set wants it -/
theorem call_set_lstI {l : Addr} {items : Array Value} (ns : List Int) {Q : Value → Shared → Prop} (hh : A.handled = none) (hl : s.heap.IsList l items) (hit : IntsAre items.toList ns) (hb : ns.length + 1 < scanBound)
    (h : ∀ (h' : Heap) (tk c : Nat), SetR w h' s.heap.objs.size (fun j => decide (j ∈ ns)) c → c ≤ ns.length → (∀ b o, s.heap.get? b = some o → h'.get? b = some o) → Q (.ref s.heap.objs.size) { s with heap := h', toks := tk }) :
    wpAny (model P w) A (call (.type "set") [.ref l]) Q E s := by
  have hisz : items.size = ns.length := by
    have q := IntsAre.length hit
    rwa [Array.length_toList] at q
  obtain ⟨c, tl, hmro⟩ := F.called_set.mro
  have hmade := F.called_set.made
  have hsub := F.called_set.sub
  refine wpAny_call (codeAny_of_tree ?_)
  show wpAny _ _ (callAny (.type "set") _) _ _ _
  refine wpAny_pure ⟨Code.quiet_builtin _ (by decide +kernel), codeAny_builtin F.entry_type_call ?_⟩
  rw [Around.under_plain (weight_type_call_type "set" [.ref l] []) rfl]
  have h1 := F.called_set.notType
  have h2 := F.called_set.canCreate
  have hct := F.typeCall_set_1 (.ref l)
  repeat (any_goals (first | assumption | wp_step))
  refine codeAny_mono (code_set_led1 (.ref l) (E := E) (Q₁ := fun obj s₁ => obj = .ref s.heap.objs.size ∧ s₁ = { s with heap := s.heap.push (freshSet w) }) ⟨rfl, rfl⟩) fun r s₁ hr => ?_
  cases r with
  | error e => exact hr
  | ok fl =>
    cases fl with
    | ret obj =>
      obtain ⟨rfl, rfl⟩ := hr
      have hS : (s.heap.push (freshSet w)).get? s.heap.objs.size = some (freshSet w) := Heap.get?_push_size _ rfl
      have hT : Shared.TypeIs { s with heap := s.heap.push (freshSet w) } (.ref s.heap.objs.size) "set" := ⟨_, hS, rfl⟩
      have hli := F.called_set.init.lookup
      have hbi := F.called_set.init.bind (.ref s.heap.objs.size)
      repeat (any_goals (first | assumption | wp_step))
      refine codeAny_mono (codeAny_call_builtin (R := wants (fun r s₂ => r = .none ∧ ∃ h' tk c, s₂ = { s with heap := h', toks := tk } ∧ SetR w h' s.heap.objs.size (fun j => decide (j ∈ ns)) c ∧ c ≤ ns.length ∧
          (∀ b o, s.heap.get? b = some o → h'.get? b = some o)) E) F.called_set.init.plain F.entry_set_init (check_set_init_1 hT ?_)) fun r₂ s₂ hr₂ => ?_
      · obtain ⟨ol, hol, hcl, nl, hdl⟩ := hl
        obtain ⟨ocls, odict, odata, oslots⟩ := ol
        simp only at hcl hdl
        subst hcl; subst hdl
        have hol' : (s.heap.push (freshSet w)).get? l = some { cls := .type "list", dict := odict, data := .seq items nl, slots := oslots } := Heap.get?_push_of_some _ hol
        have hsls := F.sub_list_set
        have hslf := F.sub_list_frozenset
        have hne : (Value.type "list" == Value.type "dict") = false := by decide
        have hl1 : (s.heap.push (freshSet w)).IsList l items := ⟨_, hol', rfl, nl, rfl⟩
        unfold Builtin.«set.__init__» noKeywords Builtin.Frozenset.updateFrom
        generalize hPI : pyIter = PI
        wp_walk
        subst hPI
        refine wpAny_pyIter_list hl1 ?_
        refine wpAny_bind (wpAny_runValue ?_)
        have hlS : l < s.heap.objs.size := Heap.lt_size hol
        have hh3 : A.in1.in1.in1.handled = none := by simp [hh]
        have hneI : l ≠ (s.heap.push (freshSet w)).objs.size := by
          rw [Heap.size_push]; exact Nat.ne_of_lt (Nat.lt_succ_of_lt hlS)
        have hSf : s.heap.objs.size ∉ [(s.heap.push (freshSet w)).objs.size, l] := by
          rw [Heap.size_push]; simp only [List.mem_cons, List.mem_singleton, List.not_mem_nil, or_false, not_or]
          exact ⟨Nat.ne_of_lt (Nat.lt_succ_self _), Nat.ne_of_gt hlS⟩
        have hval : ∀ (i : Nat) (v : Value), items[i]? = some v → ∃ k t, ns[i]? = some k ∧ v = .int k t := fun i v hv => by
          have hi : i < ns.length := by rw [← hisz]; exact (Array.getElem?_eq_some_iff.mp hv).1
          obtain ⟨t, e⟩ := PyProof.Rows.IntsAre.int_at hit i v (by rw [Array.getElem?_toList]; exact hv)
          refine ⟨ns[i], t, List.getElem?_eq_getElem hi, ?_⟩
          rw [e, List.getD_eq_getElem?_getD, List.getElem?_eq_getElem hi] <;> rfl
        refine set_update_ints ((Walks.list hh3 _ l hneI items).toS) s.heap.objs.size
          hSf ns hisz hb hval (items.size - 0) 0 _ (by omega) (Nat.zero_le _)
          ⟨⟨_, Heap.get?_push_size _ rfl, rfl, rfl⟩, (hl1.push _)⟩ ?hS0 ?hR
        case hS0 =>
          have hget : ((s.heap.push (freshSet w)).push { cls := .type "list_iterator", data := .fields #[.ref l, .int 0 0] }).get? s.heap.objs.size = some (freshSet w) := Heap.get?_push_of_some _ hS
          exact ⟨0, Nat.le_refl 0, setR_new_at hget⟩
        case hR =>
          intro s' c' hm hc' hS'
          obtain ⟨h', g2, d', tk', os'⟩ := s'
          have eg : g2 = s.gens := hm.gens
          have ed : d' = s.drawn := hm.drawn
          have eo : os' = s.os := hm.os
          subst eg; subst ed; subst eo
          show wpAny _ _ _ _ _ _
          refine wpAny_pure ?_
          show wpAny _ _ (ret Value.none) _ _ _
          rw [hisz] at hc'
          refine wpAny_pure ⟨rfl, h', tk', c', rfl, hS', hc', fun b o e => ?_⟩
          have hb0 : b < s.heap.objs.size := Heap.lt_size e
          have hb1 : b ≠ s.heap.objs.size := Nat.ne_of_lt hb0
          have hb2 : b ≠ (s.heap.push (freshSet w)).objs.size := by
            rw [Heap.size_push]; exact Nat.ne_of_lt (Nat.lt_succ_of_lt hb0)
          exact hm.heap b o (by simp only [List.mem_cons, List.mem_singleton, List.not_mem_nil, or_false, not_or]; exact ⟨hb1, hb2⟩) (Heap.get?_push_of_some _ (Heap.get?_push_of_some _ e))
      · cases r₂ with
        | error e => exact hr₂
        | ok fl₂ =>
          cases fl₂ with
          | ret r =>
            obtain ⟨rfl, h', tk, c', rfl, hS', hc', hk'⟩ := hr₂
            repeat (any_goals (first | assumption | wp_step))
            exact h _ _ _ hS' hc' hk'
          | _ => exact hr₂.elim
    | _ => exact hr.elim
/-- sorted(set) of tuples of ints, of any lengths -/
theorem sorted_setL {a : Addr} {L : List (Addr × List Int)} {es : Array (Int × Value)} {ep : Nat} {t : SetTable} {Q : Value → Shared → Prop} (R : SetTR P w s.heap a L es ep t) (hh : A.handled = none) (hne : ∀ p ∈ L, p.2 ≠ [])
    (hQ : ∀ s' p (out : Array Value) (c : Nat) (L' : List (Addr × List Int)), (∀ b o, s.heap.get? b = some o → s'.heap.get? b = some o) → s'.gens = s.gens → s'.os = s.os → s.heap.objs.size ≤ p →
      s'.heap.get? p = some (seqObj "list" out c) → out.toList = L'.map (fun q => Value.ref q.1) → L'.Perm L → L'.Pairwise (fun q r => lxLt r.2 q.2 = false) → Q (.ref p) s') :
    wpAny (model P w) A (call (.builtin "sorted") [.ref a]) Q E s := by
  obtain ⟨o, ho, hex, hd⟩ := R.ob
  have hfew := R.few
  have hsz := R.size
  refine Calls.call_function_entry kind_sorted plain_sorted entry_sorted (args_sorted1 _) ?_
  unfold Builtin.«sorted»
  refine wpAny_bind (m := checkCount "sorted" 1 1 _) (wpAny_pure ?_)
  refine wpAny_bind (collect_set (A := A.in1) hh ⟨o, ho, hex.1, hd⟩ R.fits (by unfold scanBound; omega) R.tab.ris R.led fun s1 vs k1 hz g1 o1 pm => ?_)
  have hes : es.toList.map (·.2) = L.map fun q => Value.ref q.1 := by
    rw [R.rows]
    unfold rowsOf
    rw [List.map_map]
    rfl
  rw [hes] at pm
  have hvl : vs.length < 64 := by rw [pm.length_eq, List.length_map]; exact hfew
  refine wpAny_bind (wpAny_newList ?_ (by rw [sizeLine_eq]; omega))
  have hoL : (s1.heap.push (seqObj "list" vs.toArray 0)).get? s1.heap.objs.size = some (seqObj "list" vs.toArray 0) := Heap.get?_push_size _ rfl
  have tk : ∀ q ∈ L, TS.TupInts (s1.heap.push (seqObj "list" vs.toArray 0)) (.ref q.1) q.2 := fun q hq => tupInts_of (P := P) (w := w) (isT_keep (R.tup q hq) fun b u e => Heap.get?_push_of_some _ (k1 b u e))
  have x : TS.TupsL (s1.heap.push (seqObj "list" vs.toArray 0)) vs := fun v hv => by
    obtain ⟨q, hq, e⟩ := List.mem_map.mp (pm.mem_iff.mp hv)
    rw [← e]
    exact ⟨q.2, tk q hq, hne q hq⟩
  refine wpAny_bind (wpAny_holding (TS.call_sort_lex (s := { s1 with heap := s1.heap.push (seqObj "list" vs.toArray 0) }) hoL hvl x fun out a1 a2 => ?_))
  obtain ⟨c, hc⟩ := sortedHeap_at (vs := vs) (out := out) hoL
  obtain ⟨L', pL, e'⟩ := lift_perm_to (fun q : Addr × List Int => Value.ref q.1) (a1.trans pm) L rfl
  refine wpAny_pure ⟨_, rfl, hQ _ s1.heap.objs.size out c L' (fun b u e => ?_) g1 o1 hz hc e' pL ?_⟩
  · have q := k1 b u e
    have hlt := Heap.lt_size q
    show (sortedHeap (s1.heap.push (seqObj "list" vs.toArray 0)) s1.heap.objs.size vs out).get? b = some u
    rw [sortedHeap_old (Nat.ne_of_lt hlt) (by rw [size_push']; exact Nat.lt_succ_of_lt hlt)]
    exact Heap.get?_push_of_some _ q
  · rw [e'] at a2
    refine List.Pairwise.imp_of_mem (fun {q r} hq hr hle => ?_) (List.pairwise_map.mp a2)
    rw [← (tk q (pL.mem_iff.mp hq)).ints, ← (tk r (pL.mem_iff.mp hr)).ints]
    exact hle
end
end L2
namespace Sim
open PySem PySem.Spec L2
open PyProof.Rows hiding St
section
variable {X : Cx}
/-- sorted(xs), xs a list of tuples of ints -/
def rSortL (K : PySem.W.Frag) : List V → Hp → VK → Prop := fun vs H Q => ∃ (a : Addr) (L : List (Addr × List Int)), vs = [V.ref a] ∧ SqL K H a (L.map fun p => V.ref p.1) ∧ L.length < 64 ∧ (∀ p ∈ L, SqT K H p.1 (p.2.map V.int) ∧ p.2 ≠ []) ∧
  ∀ (L' : List (Addr × List Int)) (p : Addr), L'.Perm L → L'.Pairwise (fun q r => lxLt r.2 q.2 = false) → H p = none → Q (.ref p) (upd H p (.lst (L'.map fun q => V.ref q.1)))
theorem cr_sortL : CallR X (.builtin "sorted") (rSortL X.K) := by
  intro pins s σ H vs us Q I r h
  obtain ⟨a, L, rfl, hs, h64, hx, q⟩ := h
  obtain ⟨its, rv, hl, hz⟩ := I.list hs
  rw [Vals.ref1 r]
  have eits := refs_of_vals rv
  have tk : ∀ p ∈ L, TS.TupInts s.heap (.ref p.1) p.2 := fun p hp => tupI_raw I (hx p hp).1
  refine TS.sorted_lex hl.isList (by rw [← rv.length, List.length_map]; exact h64) (fun v hv => ?_) fun out h1 h2 => ?_
  · rw [eits] at hv
    obtain ⟨p, hp, e⟩ := List.mem_map.mp hv
    rw [← e]
    exact ⟨p.2, tk p hp, (hx p hp).2⟩
  · obtain ⟨ep, he'⟩ := PyProof.Rows.sortedAll_at s.heap its out
    obtain ⟨L', pL, e'⟩ := lift_perm_to (fun q : Addr × List Int => Value.ref q.1) h1 L eits
    have hlen : (L'.map fun q => V.ref q.1).length ≤ sizeLine := by rw [List.length_map, pL.length_eq, sizeLine_eq]; omega
    have hv : Vals (L'.map fun q => V.ref q.1) out.toList := by rw [e']; exact vals_of_refs L'
    refine ⟨.ref _, upd H (s.heap.objs.size + 1) (.lst (L'.map fun q => V.ref q.1)), I.laid (t' := s.toks) (fun _ _ => PyProof.Rows.sortedAll_old) (Nat.le_succ _) ⟨hlen, out.toList, ep, hv, he'⟩, rfl, q L' _ pL ?_ (I.hok.fresh (Nat.le_succ _))⟩
    rw [e'] at h2
    refine List.Pairwise.imp_of_mem (fun {q r} hq hr hle => ?_) (List.pairwise_map.mp h2)
    rw [← (tk q (pL.mem_iff.mp hq)).ints, ← (tk r (pL.mem_iff.mp hr)).ints]
    exact hle
/-- sorted(set(xs)) of ints -/
def tSortSetI (K : PySem.W.Frag) (te : TE) : TE := fun σ H Q => te σ H fun x H1 => ∃ (l : Addr) (ns : List Int), x = V.ref l ∧ SqL K H1 l (ns.map V.int) ∧ ns.length < 64 ∧
  ∀ (ns' : List Int) (p : Addr), ns'.Pairwise (· < ·) → (∀ k, k ∈ ns' ↔ k ∈ ns) → H1 p = none → Q (.ref p) (upd H1 p (.lst (ns'.map V.int)))
/-- sorted(set(xs)) of tuples of ints -/
def tSortSetT (K : PySem.W.Frag) (te : TE) : TE := fun σ H Q => te σ H fun x H1 => ∃ (l : Addr) (ks : List (Addr × List Int)), x = V.ref l ∧ SqL K H1 l (ks.map fun p => V.ref p.1) ∧ (∀ p ∈ ks, SqT K H1 p.1 (p.2.map V.int) ∧ p.2 ≠ []) ∧ ks.length < 64 ∧
  ∀ (L : List (Addr × List Int)) (p : Addr), (∀ q ∈ L, q ∈ ks) → (∀ q ∈ ks, q.2 ∈ L.map (·.2)) → (L.map (·.2)).Nodup → L.Pairwise (fun q r => lxLt r.2 q.2 = false) → H1 p = none → Q (.ref p) (upd H1 p (.lst (L.map fun q => V.ref q.1)))
variable {a : Expr} {ta te : TE} {p p2 q pos : Pos}
theorem pe_sortSetI (hc : X.calm = true) (hg : Gl X "sorted") (hm : X.mg "sorted" = none) (hg2 : Gl X "set") (hm2 : X.mg "set" = none) (ha : PE X a ta)
    (na : starEach [a] X.env = (false, eval a X.env) :: starEach [] X.env := by rfl) : PE X (.Call (.Name "sorted" p) [.Call (.Name "set" p2) [a] [] q] [] pos) (tSortSetI X.K ta) := by
  refine ⟨fun pins s σ H Q I h => ?_⟩
  refine Call_ (ld_blt I hg hm (by decide +kernel : bootBuiltins "sorted" = some (.builtin "sorted")) ?_)
  refine PyProof.Rows.callWith_builtin1 (PyProof.Rows.args_cons ?_ rfl) rfl rfl
  refine Call_ (ld_blt I hg2 hm2 PyProof.Rows.boot_set ?_)
  refine PyProof.Rows.callWith_type1 (PyProof.Rows.args_cons (thn (ha.run pins s σ H _ I h) fun v s1 ⟨x, H1, I1, r1, q1⟩ => PyProof.Rows.args_nil ?_) na) na rfl
  obtain ⟨l, ns, rfl, hq, h1, q1⟩ := q1
  cases r1
  obtain ⟨its, r, pl, hz⟩ := I1.list hq
  refine call_set_lstI ns (I1.ok.hd hc) pl.isList (by simpa using r.ints) (by unfold scanBound; omega) fun h' tk c hS hcl hk => ?_
  have I2 : Inv X pins σ H1 { s1 with heap := h', toks := tk } := I1.kept hk
  refine PyProof.Rows.args_nil ?_
  refine sorted_set (s := { s1 with heap := h', toks := tk }) hS (I1.ok.hd hc) (by omega) fun s' p' out c' ns' k g o hp hgt hI hpw hmem hlen => ?_
  have hn : H1 p' = none := I2.hok.fresh hp
  have hle : (ns'.map V.int).length ≤ sizeLine := by rw [List.length_map, sizeLine_eq]; omega
  have J : Inv X pins σ (upd H1 p' (.lst (ns'.map V.int))) { ({ s1 with heap := h', toks := tk } : Shared) with heap := s'.heap, gens := s'.gens, drawn := s'.drawn, toks := s'.toks } :=
    I2.call (ch := []) (Un.laid k hp hn) (I2.hok.laid k hp ⟨hle, out.toList, c', vals_of_ints hI, hgt⟩) (by rw [g]; exact I2.bare) (fun _ z => nomatch z)
  have e : s' = { ({ s1 with heap := h', toks := tk } : Shared) with heap := s'.heap, gens := s'.gens, drawn := s'.drawn, toks := s'.toks } := by
    cases s'
    cases s1
    cases o
    rfl
  rw [e]
  exact ⟨.ref p', _, J, rfl, q1 ns' p' hpw (fun k => by rw [hmem k, decide_eq_true_eq]) hn⟩
theorem pe_sortSetT (hc : X.calm = true) (hu : X.A.units + 64 < cLine) (hg : Gl X "sorted") (hm : X.mg "sorted" = none) (hg2 : Gl X "set") (hm2 : X.mg "set" = none) (ha : PE X a ta)
    (na : starEach [a] X.env = (false, eval a X.env) :: starEach [] X.env := by rfl) : PE X (.Call (.Name "sorted" p) [.Call (.Name "set" p2) [a] [] q] [] pos) (tSortSetT X.K ta) := by
  refine ⟨fun pins s σ H Q I h => ?_⟩
  refine Call_ (ld_blt I hg hm (by decide +kernel : bootBuiltins "sorted" = some (.builtin "sorted")) ?_)
  refine PyProof.Rows.callWith_builtin1 (PyProof.Rows.args_cons ?_ rfl) rfl rfl
  refine Call_ (ld_blt I hg2 hm2 PyProof.Rows.boot_set ?_)
  refine PyProof.Rows.callWith_type1 (PyProof.Rows.args_cons (thn (ha.run pins s σ H _ I h) fun v s1 ⟨x, H1, I1, r1, q1⟩ => PyProof.Rows.args_nil ?_) na) na rfl
  obtain ⟨l, ks, rfl, hq, hks, h1, q1⟩ := q1
  cases r1
  obtain ⟨its, r, pl, hz⟩ := I1.list hq
  refine call_set_tups (P := X.prog) (w := X.w) ks (I1.ok.hd hc) pl.isList (by simpa using refs_of_vals r) (fun p hp => I1.isT (hks p hp).1) h1 (by omega) fun h' tk L es ep t R g0 hk => ?_
  have I2 : Inv X pins σ H1 { s1 with heap := h', toks := tk } := I1.kept hk
  have hsub : ∀ q ∈ L, q ∈ ks := fun q hq => List.mem_of_mem_take (g0.sub q hq)
  refine PyProof.Rows.args_nil ?_
  refine sorted_setL (s := { s1 with heap := h', toks := tk }) R (I1.ok.hd hc) (fun q hq => (hks q (hsub q hq)).2) fun s' p' out c' L' k g o hp hgt hout pm hpw => ?_
  have hn : H1 p' = none := I2.hok.fresh hp
  have hfew : L'.length < 64 := by rw [pm.length_eq]; exact R.few
  have hle : (L'.map fun q => V.ref q.1).length ≤ sizeLine := by rw [List.length_map, sizeLine_eq]; omega
  have hv : Vals (L'.map fun q => V.ref q.1) out.toList := by rw [hout]; exact vals_of_refs L'
  have J : Inv X pins σ (upd H1 p' (.lst (L'.map fun q => V.ref q.1))) { ({ s1 with heap := h', toks := tk } : Shared) with heap := s'.heap, gens := s'.gens, drawn := s'.drawn, toks := s'.toks } :=
    I2.call (ch := []) (Un.laid k hp hn) (I2.hok.laid k hp ⟨hle, out.toList, c', hv, hgt⟩) (by rw [g]; exact I2.bare) (fun _ z => nomatch z)
  have e : s' = { ({ s1 with heap := h', toks := tk } : Shared) with heap := s'.heap, gens := s'.gens, drawn := s'.drawn, toks := s'.toks } := by
    cases s'
    cases s1
    cases o
    rfl
  rw [e]
  refine ⟨.ref p', _, J, rfl, q1 L' p' (fun q hq => hsub q (pm.mem_iff.mp hq)) (fun q hq => ?_) ((pm.map (·.2)).nodup_iff.mpr R.nd) hpw hn⟩
  have := g0.all q (by rw [List.take_length]; exact hq)
  exact (pm.map (·.2)).mem_iff.mpr this
end
end Sim
end T_SimT

section T_SimU
set_option Elab.async false
set_option linter.all false
set_option maxRecDepth 100000
/-! SimU: sorted(list of tuples), sorted(set(..)), tuple(range): the closures. -/
namespace Sim
open PySem PySem.Spec L2
open PyProof.Rows hiding St

def allT : List Dt → Option (List (List Int))
  | [] => some []
  | .tuple xs :: ds => match allI xs with
    | some ns => match allT ds with
      | some nss => some (ns :: nss)
      | none => none
    | none => none
  | _ :: _ => none
def encL (ns : List Int) : Dt := .tuple (ns.map .int)
theorem allT_map : ∀ nss : List (List Int), allT (nss.map encL) = some nss
  | [] => rfl
  | ns :: nss => by
    rw [List.map_cons]
    unfold encL allT
    rw [show allI (ns.map PyData.int) = some ns from allI_map ns]
    have := allT_map nss
    unfold encL at this
    rw [this]
def dd {α : Type} [DecidableEq α] : List α → List α
  | [] => []
  | x :: xs => if x ∈ xs then dd xs else x :: dd xs
theorem mem_dd {α : Type} [DecidableEq α] {y : α} : ∀ {xs : List α}, y ∈ dd xs ↔ y ∈ xs
  | [] => Iff.rfl
  | x :: xs => by
    unfold dd
    split
    · rename_i h
      rw [mem_dd, List.mem_cons]
      exact ⟨.inr, fun z => z.elim (fun e => e ▸ h) id⟩
    · rw [List.mem_cons, List.mem_cons, mem_dd]
theorem nodup_dd {α : Type} [DecidableEq α] : ∀ xs : List α, (dd xs).Nodup
  | [] => List.nodup_nil
  | x :: xs => by
    unfold dd
    split
    · exact nodup_dd xs
    · rename_i h
      exact List.nodup_cons.mpr ⟨fun z => h (mem_dd.mp z), nodup_dd xs⟩
def tsort (nss : List (List Int)) : List (List Int) := nss.mergeSort fun a b => !lxLt b a
def tset (nss : List (List Int)) : List (List Int) := tsort (dd nss)
def iset (ns : List Int) : List Int := isort (dd ns)
theorem tsort_perm (nss : List (List Int)) : (tsort nss).Perm nss := List.mergeSort_perm _ _
theorem tsort_sorted (nss : List (List Int)) : (tsort nss).Pairwise fun a b => lxLt b a = false := by
  have h := List.pairwise_mergeSort (le := fun a b : List Int => !lxLt b a) (fun a b c h1 h2 => by
    simp only [Bool.not_eq_true'] at *
    cases e : lxLt c a with
    | false => rfl
    | true =>
      cases e2 : lxLt a b with
      | true => rw [lxLt_trans e e2] at h2; cases h2
      | false =>
        rw [lxLt_tri e2 h1] at e
        rw [e] at h2
        cases h2) (fun a b => by
    cases e : lxLt b a with
    | false => simp
    | true =>
      cases e2 : lxLt a b with
      | false => simp
      | true => have := lxLt_trans e e2; rw [lxLt_irr] at this; cases this) nss
  exact h.imp fun h => by simpa using h
theorem lex_unique : ∀ {a b : List (List Int)}, a.Perm b → a.Pairwise (fun x y => lxLt y x = false) → b.Pairwise (fun x y => lxLt y x = false) → a = b
  | [], b, p, _, _ => List.Perm.nil_eq p
  | x :: a, [], p, _, _ => absurd p.length_eq (by simp)
  | x :: a, y :: b, p, ha, hb => by
    have h1 : lxLt x y = false := by
      have : x ∈ y :: b := p.subset List.mem_cons_self
      rcases List.mem_cons.mp this with e | h
      · rw [e, lxLt_irr]
      · exact (List.pairwise_cons.mp hb).1 x h
    have h2 : lxLt y x = false := by
      have : y ∈ x :: a := p.symm.subset List.mem_cons_self
      rcases List.mem_cons.mp this with e | h
      · rw [e, lxLt_irr]
      · exact (List.pairwise_cons.mp ha).1 y h
    have e := lxLt_tri h1 h2
    subst e
    rw [lex_unique (List.perm_cons _ |>.mp p) (List.pairwise_cons.mp ha).2 (List.pairwise_cons.mp hb).2]
theorem iset_of {ns ns' : List Int} (h1 : ns'.Pairwise (· < ·)) (h2 : ∀ k, k ∈ ns' ↔ k ∈ ns) : ns' = iset ns := by
  refine sorted_unique (((List.perm_ext_iff_of_nodup (h1.imp fun h => by omega) (nodup_dd ns)).mpr fun k => by rw [h2, mem_dd]).trans (isort_perm _).symm) (h1.imp fun h => by omega) (isort_sorted _)
theorem tset_of {nss nss' : List (List Int)} (h0 : nss'.Nodup) (h1 : nss'.Pairwise fun a b => lxLt b a = false) (h2 : ∀ k, k ∈ nss' ↔ k ∈ nss) : nss' = tset nss :=
  lex_unique (((List.perm_ext_iff_of_nodup h0 (nodup_dd nss)).mpr fun k => by rw [h2, mem_dd]).trans (tsort_perm _).symm) h1 (tsort_sorted _)

section
variable {K : PySem.W.Frag} {W : Wt} {Δ : List Kd}
theorem rpA_tups {F : Addr → Prop} {H : Hp} : ∀ {xs : List V} {ds : List Dt} {nss : List (List Int)}, RpA K F H xs ds → allT ds = some nss → ∃ ts : List (Addr × List Int), xs = ts.map (fun p => V.ref p.1) ∧ ts.map (·.2) = nss ∧ ∀ p ∈ ts, SqT K H p.1 (p.2.map V.int)
  | _, _, _, .nil, e => by cases e; exact ⟨[], rfl, rfl, fun p hp => nomatch hp⟩
  | _, _, nss, .cons (d := d) (ds := ds) h r, e => by
    cases h with
    | @tup a ys es hs hr =>
      unfold allT at e
      cases ei : allI es with
      | none => rw [ei] at e; cases e
      | some ns =>
        rw [ei] at e
        cases et : allT ds with
        | none => rw [et] at e; cases e
        | some ms =>
          rw [et] at e
          cases e
          obtain ⟨ts, e1, e2, e3⟩ := rpA_tups r et
          refine ⟨(a, ns) :: ts, by rw [List.map_cons, e1], by rw [List.map_cons, e2], fun p hp => ?_⟩
          rcases List.mem_cons.mp hp with z | z
          · rw [z]
            rw [rp_ints hr ei] at hs
            exact hs
          · exact e3 p z
    | _ => cases e
theorem rpA_of_tups {F : Addr → Prop} {H : Hp} : ∀ ts : List (Addr × List Int), (∀ p ∈ ts, SqT K H p.1 (p.2.map V.int)) → RpA K F H (ts.map fun p => V.ref p.1) ((ts.map (·.2)).map encL)
  | [], _ => .nil
  | p :: ts, h => .cons (.tup (h p List.mem_cons_self) (rpA_ints _)) (rpA_of_tups ts fun q hq => h q (List.mem_cons_of_mem _ hq))
/-- none is empty, fewer than 64 -/
def okT0 (nss : List (List Int)) : Bool := nss.all (fun ns => !ns.isEmpty) && decide (nss.length < 64)
def hSortT : Dt → O Dt := fun d => match d with
  | .list xs => match allT xs with
    | some nss => if okT0 nss = true then .ok (.list ((tsort nss).map encL)) else .bad
    | none => .bad
  | _ => .bad
def hSortSetT : Dt → O Dt := fun d => match d with
  | .list xs => match allT xs with
    | some nss => if okT0 nss = true then .ok (.list ((tset nss).map encL)) else .bad
    | none => .bad
  | _ => .bad
def hSortSetI : Dt → O Dt := fun d => match d with
  | .list xs => match allI xs with
    | some ns => if ns.length < 64 then .ok (.list ((iset ns).map .int)) else .bad
    | none => .bad
  | _ => .bad
theorem okT0_ne {nss : List (List Int)} (h : okT0 nss = true) : (∀ ns ∈ nss, ns ≠ []) ∧ nss.length < 64 := by
  unfold okT0 at h
  rw [Bool.and_eq_true, List.all_eq_true, decide_eq_true_eq] at h
  exact ⟨fun ns hn e => by have := h.1 ns hn; rw [e] at this; simp at this, h.2⟩
theorem se_sortT {tA : TA} {gA : List Dt → O (List Dt)} {av fr : Bool} (ha : SA K W Δ tA av fr gA) : SE K W Δ (tCB (rSortL K) tA) (.new .l true) (gCB (one hSortT) gA) := fun f ρ σ H Q R q => by
  refine ha f ρ σ H _ R ?_
  unfold gCB at q
  cases e1 : gA ρ with
  | bad => rw [e1] at q; exact q
  | ex z => rw [e1] at q; exact q
  | ok ds =>
    rw [e1, bnd_ok] at q
    intro vs H1 s1 x1
    rcases one_eq (h := hSortT) (ds := ds) with ⟨d, rfl, e⟩ | e
    · rw [e] at q
      cases x1 with
      | cons x1 xr =>
        cases xr
        cases d with
        | list es =>
          unfold hSortT at q
          simp only at q
          cases ea : allT es with
          | none => rw [ea] at q; exact q.elim
          | some nss =>
            rw [ea] at q
            simp only at q
            by_cases hk : okT0 nss = true
            · rw [if_pos hk] at q
              obtain ⟨a, xs, rfl, hs, r⟩ := x1.sql
              obtain ⟨ts, rfl, rfl, h3⟩ := rpA_tups r ea
              obtain ⟨k1, k2⟩ := okT0_ne hk
              rw [List.length_map] at k2
              refine ⟨a, ts, rfl, hs, k2, fun p hp => ⟨h3 p hp, k1 _ (List.mem_map.mpr ⟨p, hp, rfl⟩)⟩, fun L' l pL pw nl => ?_⟩
              have e2 : tsort (ts.map (·.2)) = L'.map (·.2) := lex_unique ((tsort_perm _).trans (pL.map (·.2)).symm) (tsort_sorted _) (List.pairwise_map.mpr pw)
              rw [e2] at q
              exact q l _ (s1.free nl) (s1.trans (same_upd nl)) ⟨_, _, rfl, upd_same, rpA_of_tups L' fun p hp => sqt_same (same_upd nl) (h3 p (pL.mem_iff.mp hp))⟩
            · rw [if_neg hk] at q
              exact q.elim
        | _ => exact q.elim
    · rw [e] at q
      exact q.elim
theorem se_sortSetI {te : TE} {g : Gd} {av fr : Bool} (ha : SE K W Δ te (.v av fr) g) : SE K W Δ (tSortSetI K te) (.new .l true) (gUn hSortSetI g) := fun f ρ σ H Q R q => by
  refine ha f ρ σ H _ R ?_
  unfold gUn at q
  cases e1 : g ρ with
  | bad => rw [e1] at q; exact q
  | ex z => rw [e1] at q; exact q
  | ok d =>
    rw [e1, bnd_ok] at q
    intro v H1 s1 x1
    cases d with
    | list es =>
      unfold hSortSetI at q
      simp only at q
      cases ea : allI es with
      | none => rw [ea] at q; exact q.elim
      | some ns =>
        rw [ea] at q
        simp only at q
        by_cases hl : ns.length < 64
        · rw [if_pos hl] at q
          obtain ⟨c, xs, rfl, hs, r⟩ := x1.sql
          rw [rp_ints r ea] at hs
          refine ⟨c, ns, rfl, hs, hl, fun ns' p h1 h2 np => ?_⟩
          rw [← iset_of h1 h2] at q
          exact q p _ (s1.free np) (s1.trans (same_upd np)) ⟨_, _, rfl, upd_same, rpA_ints _⟩
        · rw [if_neg hl] at q
          exact q.elim
    | _ => exact q.elim
theorem se_sortSetT {te : TE} {g : Gd} {av fr : Bool} (ha : SE K W Δ te (.v av fr) g) : SE K W Δ (tSortSetT K te) (.new .l true) (gUn hSortSetT g) := fun f ρ σ H Q R q => by
  refine ha f ρ σ H _ R ?_
  unfold gUn at q
  cases e1 : g ρ with
  | bad => rw [e1] at q; exact q
  | ex z => rw [e1] at q; exact q
  | ok d =>
    rw [e1, bnd_ok] at q
    intro v H1 s1 x1
    cases d with
    | list es =>
      unfold hSortSetT at q
      simp only at q
      cases ea : allT es with
      | none => rw [ea] at q; exact q.elim
      | some nss =>
        rw [ea] at q
        simp only at q
        by_cases hk : okT0 nss = true
        · rw [if_pos hk] at q
          obtain ⟨c, xs, rfl, hs, r⟩ := x1.sql
          obtain ⟨ts, rfl, rfl, h3⟩ := rpA_tups r ea
          obtain ⟨k1, k2⟩ := okT0_ne hk
          rw [List.length_map] at k2
          refine ⟨c, ts, rfl, hs, fun p hp => ⟨h3 p hp, k1 _ (List.mem_map.mpr ⟨p, hp, rfl⟩)⟩, k2, fun L p h1 h2 h4 h5 np => ?_⟩
          have e2 : L.map (·.2) = tset (ts.map (·.2)) := tset_of h4 (List.pairwise_map.mpr h5) fun k => ⟨fun hk => by
            obtain ⟨y, hy, e⟩ := List.mem_map.mp hk
            exact List.mem_map.mpr ⟨y, h1 y hy, e⟩, fun hk => by
            obtain ⟨y, hy, e⟩ := List.mem_map.mp hk
            rw [← e]
            exact h2 y hy⟩
          rw [← e2] at q
          exact q p _ (s1.free np) (s1.trans (same_upd np)) ⟨_, _, rfl, upd_same, rpA_of_tups L fun y hy => sqt_same (same_upd np) (h3 y (h1 y hy))⟩
        · rw [if_neg hk] at q
          exact q.elim
    | _ => exact q.elim
/-- tuple(range) -/
def gTpI (gI : List Dt → O (List Dt)) : Gd := fun ρ => bnd (gI ρ) fun ds => if ds.length ≤ 100000 then .ok (.tuple ds) else .bad
theorem se_trng1 {te : TE} {g : Gd} {av fr : Bool} (ha : SE K W Δ te (.v av fr) g) : SE K W Δ (tTupRg (tRg1 te)) (.v true true) (gTpI (gRng1 (gCons g gNil))) := fun f ρ σ H Q R q => by
  refine ha f ρ σ H _ R ?_
  unfold gTpI gRng1 gCons gNil at q
  cases e1 : g ρ with
  | bad => rw [e1] at q; exact q
  | ex z => rw [e1] at q; exact q
  | ok d =>
    rw [e1, bnd_ok, bnd_ok, bnd_ok] at q
    intro v H1 s1 x1
    cases er : rng1 [d] with
    | none => rw [er] at q; exact q.elim
    | some p =>
      rw [er] at q
      unfold rng1 at er
      split at er
      · split at er
        · rename_i hj
          obtain ⟨e, e'⟩ := List.cons.inj ‹[d] = _›
          rename_i j h2
          cases er
          subst e
          rw [rpInt x1]
          simp only [bnd_ok] at q
          by_cases l : (rangeD 0 j).length ≤ 100000
          · rw [if_pos l] at q
            rw [rangeD_len] at l
            refine ⟨j, rfl, ⟨by omega, by omega, hj.1, hj.2, by omega⟩, fun p np => q (.ref p) _ (s1.trans (same_upd np)) (.tup (.inl (.inl upd_same)) ?_)⟩
            exact rpA_mapInt _ _
          · rw [if_neg l] at q
            exact q.elim
        · cases er
      · cases er
variable {X : Cx} {a e : Expr} {es : List Expr} {te : TE} {tA : TA} {g : Gd} {gA : List Dt → O (List Dt)} {av fr : Bool} {p p2 q pos : Pos}
theorem x_sortT {x : Str} (hm : X.mg x = none) (h : AD X K W Δ (e :: es) tA av fr gA) (hv : bootBuiltins x = some (.builtin "sorted") := by decide +kernel) (hg : Gl X x := by rfl) (hn : x ≠ "__name__" := by decide) (hdb : (x == ("__debug__" : Str)) = false := by decide)
    (he : starEach (e :: es) X.env = (false, eval e X.env) :: starEach es X.env := by rfl) (hpl : (backTo pos (starEach es X.env)).any (·.1) = false := by rfl) :
    PD X K W Δ (.Call (.Name x p) (e :: es) [] pos) (tCB (rSortL K) tA) (.new .l true) (gCB (one hSortT) gA) :=
  ⟨pe_callB (by have q := cr_sortL (X := X); rw [h.hK] at q; exact q) hg hm hv h.pa hn hdb he hpl, h.hK, se_sortT h.sa⟩
theorem x_sortSetI (hm : X.mg "sorted" = none) (hm2 : X.mg "set" = none) (h : PD X K W Δ a te (.v av fr) g) (hc : X.calm = true := by rfl) (hg : Gl X "sorted" := by rfl) (hg2 : Gl X "set" := by rfl) (na : starEach [a] X.env = (false, eval a X.env) :: starEach [] X.env := by rfl) :
    PD X K W Δ (.Call (.Name "sorted" p) [.Call (.Name "set" p2) [a] [] q] [] pos) (tSortSetI K te) (.new .l true) (gUn hSortSetI g) := ⟨by have w := pe_sortSetI (X := X) (p := p) (p2 := p2) (q := q) (pos := pos) hc hg hm hg2 hm2 h.pe na; rw [h.hK] at w; exact w, h.hK, se_sortSetI h.se⟩
theorem x_sortSetT {kk : Nat} (hr : Room kk X.A) (hm : X.mg "sorted" = none) (hm2 : X.mg "set" = none) (h : PD X K W Δ a te (.v av fr) g) (hc : X.calm = true := by rfl) (hg : Gl X "sorted" := by rfl) (hg2 : Gl X "set" := by rfl) (na : starEach [a] X.env = (false, eval a X.env) :: starEach [] X.env := by rfl) :
    PD X K W Δ (.Call (.Name "sorted" p) [.Call (.Name "set" p2) [a] [] q] [] pos) (tSortSetT K te) (.new .l true) (gUn hSortSetT g) := ⟨by have w := pe_sortSetT (X := X) (p := p) (p2 := p2) (q := q) (pos := pos) hc hr.units hg hm hg2 hm2 h.pe na; rw [h.hK] at w; exact w, h.hK, se_sortSetT h.se⟩
theorem x_trng1 {pos2 : Pos} (hm : X.mg "tuple" = none) (hm2 : X.mg "range" = none) (h : PD X K W Δ a te (.v av fr) g) (hc : X.calm = true := by rfl) (hg : Gl X "tuple" := by rfl) (hg2 : Gl X "range" := by rfl)
    (na : starEach [a] X.env = (false, eval a X.env) :: starEach [] X.env := by rfl) (na2 : starEach [.Call (.Name "range" p2) [a] [] pos2] X.env = (false, eval (.Call (.Name "range" p2) [a] [] pos2) X.env) :: starEach [] X.env := by rfl) :
    PD X K W Δ (.Call (.Name "tuple" p) [.Call (.Name "range" p2) [a] [] pos2] [] pos) (tTupRg (tRg1 te)) (.v true true) (gTpI (gRng1 (gCons g gNil))) := ⟨pe_tupRg hc hg hm (prg_1 hg2 hm2 h.pe na) na2, h.hK, se_trng1 h.se⟩
end
end Sim
end T_SimU

section T_SimV
set_option Elab.async false
set_option linter.all false
set_option maxRecDepth 100000
/-! SimV: {k: v}, d.get(k), is None, tuple + tuple, sorted(set(tuple of ints)). -/
namespace Sim
open PySem PySem.Spec L2
open PyProof.Rows hiding St

/-- {k: v} -/
def gDNew1 (gk gv : Gd) : Gd := fun ρ => bnd (gk ρ) fun kd => match keyOf kd with
  | some k => bnd (gv ρ) fun v => .ok (.dict [(keyD k, v)])
  | none => .bad
/-- d.get(k) -/
def gDGetN (i : Nat) (gk : Gd) : Gd := fun ρ => match dAt ρ i with
  | some es => bnd (gk ρ) fun kd => (match keyOf kd with
    | some k => .ok ((dGet es k).getD .none)
    | none => .bad)
  | none => .bad
section
variable {K : PySem.W.Frag} {W : Wt} {Δ : List Kd} {tk tv ti ta tb : TE} {gk gv ga gb g : Gd} {fr fr' av : Bool} {i : Nat}
theorem se_dnew1 (hk : SE K W Δ tk (.v av fr') gk) (hv : SE K W Δ tv (.v true fr) gv) : SE K W Δ (tDisp [(tk, tv)]) (.new .dk fr) (gDNew1 gk gv) := fun f ρ σ H Q R q => by
  intro p np
  have s0 : Same H (upd H p (.dK [])) := same_upd np
  refine hk f ρ σ _ _ (R.mono s0) ?_
  unfold gDNew1 at q
  cases e1 : gk ρ with
  | bad => rw [e1] at q; exact q
  | ex z => rw [e1] at q; exact fun H' s => q H' (s0.trans s)
  | ok kd =>
    rw [e1, bnd_ok] at q
    intro kv H1 s1 xk
    refine hv { f with P := p :: f.P } ρ σ H1 _ ((R.addP (o := .dK []) np trivial).mono s1) ?_
    cases ek : keyOf kd with
    | none => rw [ek] at q; exact q.elim
    | some k =>
      rw [ek] at q
      dsimp only at q
      cases e2 : gv ρ with
      | bad => rw [e2] at q; exact q
      | ex z => rw [e2] at q; exact fun H' s => q H' ((s0.trans s1).trans s)
      | ok d =>
        rw [e2, bnd_ok] at q
        intro v H2 s2 x2
        have s12 := s1.trans s2
        have hp : H2 p = some (.dK []) := s12 _ _ upd_same
        have sf : Same H (upd H2 p (.dK [(k, v)])) := fun b o e => by
          rw [upd_ne (ne_of_none e np)]
          exact (s0.trans s12) b o e
        refine ⟨hp, [(k, v)], by rw [kV_keyOf xk ek]; rfl, by show 1 ≤ 15; omega, ?_⟩
        have em : mergeK [] [(k, v)] = [(k, v)] := rfl
        rw [em]
        refine q p _ np sf ⟨_, _, rfl, upd_same, .cons ?_ .nil⟩
        exact Rp.updM hp trivial (fun a fa => fa.2) (x2.weak fun a fa => ⟨⟨fun e => ⟨(fa.1 e).1, fun z => (fa.1 e).2 (List.mem_cons_of_mem _ z)⟩, fa.2⟩, fun z => (fa.1 rfl).2 (z ▸ List.mem_cons_self)⟩)
theorem se_dgetN (hk : Δ[i]? = some (.own .dk fr)) (h : SE K W Δ ti (.v av fr') gk) : SE K W Δ (tDGet1 (tVar i) ti) (.v true fr) (gDGetN i gk) := fun f ρ σ H Q r q => by
  unfold gDGetN at q
  cases ed : dAt ρ i with
  | none => rw [ed] at q; exact q.elim
  | some es =>
    rw [ed] at q
    obtain ⟨p, kvs, g1, g3, g4, g5⟩ := dk_own r hk ed
    refine ⟨_, g1, p, rfl, .inl ⟨kvs, .inl g4⟩, h f ρ σ H _ r ?_⟩
    simp only at q
    cases e2 : gk ρ with
    | bad => rw [e2] at q; exact q
    | ex z => rw [e2] at q; exact q
    | ok kd =>
      rw [e2, bnd_ok] at q
      intro kv H1 s1 xk
      cases ek : keyOf kd with
      | none => rw [ek] at q; exact q.elim
      | some k =>
        rw [ek] at q
        simp only at q
        rw [kV_keyOf xk ek]
        refine ⟨valV kvs k, DGet.k (s1 _ _ g4), ?_⟩
        rcases g5.get k with ⟨e1, e⟩ | ⟨v, d, e1, e, x⟩
        · rw [e1]
          rw [e] at q
          exact q .non H1 s1 .non
        · rw [e1]
          rw [e] at q
          exact q v H1 s1 (x.same s1)
/-- tuple + tuple -/
def hCatT : Dt → Dt → O Dt := fun d e => match d, e with
  | .tuple xs, .tuple ys => if xs.length + ys.length ≤ 100000 then .ok (.tuple (xs ++ ys)) else .bad
  | _, _ => .bad
theorem se_catT (ha : SE K W Δ ta (.v av fr) ga) (hb : SE K W Δ tb (.v av fr) gb) : SE K W Δ (tOp (rCatA K) ta tb) (.v av fr) (gOp hCatT ga gb) := fun f ρ σ H Q R q => by
  refine ha f ρ σ H _ R ?_
  unfold gOp at q
  cases e1 : ga ρ with
  | bad => rw [e1] at q; exact q
  | ex z => rw [e1] at q; exact q
  | ok d =>
    rw [e1, bnd_ok] at q
    intro v H1 s1 x1
    refine hb f ρ σ H1 _ (R.mono s1) ?_
    cases e2 : gb ρ with
    | bad => rw [e2] at q; exact q
    | ex z => rw [e2] at q; exact fun H' s => q H' (s1.trans s)
    | ok d2 =>
      rw [e2, bnd_ok] at q
      intro v2 H2 s2 x2
      have s12 := s1.trans s2
      unfold hCatT at q
      split at q
      · split at q
        · rename_i hz
          obtain ⟨a, xs, rfl, hs, r⟩ := (x1.same s2).sqt
          obtain ⟨b, ys, rfl, hs2, r2⟩ := x2.sqt
          refine ⟨a, b, xs, ys, rfl, rfl, hs, hs2, sz_le (by rw [r.length, r2.length]; exact hz), fun e => ?_, fun _ e => ?_, fun _ _ p np => ?_⟩
          · subst e
            cases r
            exact q _ H2 s12 (.tup hs2 r2)
          · subst e
            cases r2
            refine q _ H2 s12 (.tup hs ?_)
            rw [List.append_nil]
            exact r
          · exact q _ _ (s12.trans (same_upd np)) (.tup (.inl (.inl upd_same)) ((r.append r2).same (same_upd np)))
        · exact q.elim
      · exact q.elim
end
/-- sorted(set(t)), t a tuple of ints -/
def tSortSetU (K : PySem.W.Frag) (te : TE) : TE := fun σ H Q => te σ H fun x H1 => ∃ (l : Addr) (ns : List Int), x = V.ref l ∧ SqT K H1 l (ns.map V.int) ∧ ns.length < 64 ∧
  ∀ (ns' : List Int) (p : Addr), ns'.Pairwise (· < ·) → (∀ k, k ∈ ns' ↔ k ∈ ns) → H1 p = none → Q (.ref p) (upd H1 p (.lst (ns'.map V.int)))
def hSortSetU : Dt → O Dt := fun d => match d with
  | .tuple xs => match allI xs with
    | some ns => if ns.length < 64 then .ok (.list ((iset ns).map .int)) else .bad
    | none => .bad
  | _ => .bad
section
variable {X : Cx} {a : Expr} {ta te : TE} {p p2 q pos : Pos}
theorem pe_sortSetU (hc : X.calm = true) (hg : Gl X "sorted") (hm : X.mg "sorted" = none) (hg2 : Gl X "set") (hm2 : X.mg "set" = none) (ha : PE X a ta)
    (na : starEach [a] X.env = (false, eval a X.env) :: starEach [] X.env := by rfl) : PE X (.Call (.Name "sorted" p) [.Call (.Name "set" p2) [a] [] q] [] pos) (tSortSetU X.K ta) := by
  refine ⟨fun pins s σ H Q I h => ?_⟩
  refine Call_ (ld_blt I hg hm (by decide +kernel : bootBuiltins "sorted" = some (.builtin "sorted")) ?_)
  refine PyProof.Rows.callWith_builtin1 (PyProof.Rows.args_cons ?_ rfl) rfl rfl
  refine Call_ (ld_blt I hg2 hm2 PyProof.Rows.boot_set ?_)
  refine PyProof.Rows.callWith_type1 (PyProof.Rows.args_cons (thn (ha.run pins s σ H _ I h) fun v s1 ⟨x, H1, I1, r1, q1⟩ => PyProof.Rows.args_nil ?_) na) na rfl
  obtain ⟨l, ns, rfl, hq, h1, q1⟩ := q1
  cases r1
  obtain ⟨its, r, pl, hz⟩ := I1.tuple hq
  refine call_set_tupI ns (I1.ok.hd hc) pl (by simpa using r.ints) (by unfold scanBound; omega) fun h' tk c hS hcl hk => ?_
  have I2 : Inv X pins σ H1 { s1 with heap := h', toks := tk } := I1.kept hk
  refine PyProof.Rows.args_nil ?_
  refine sorted_set (s := { s1 with heap := h', toks := tk }) hS (I1.ok.hd hc) (by omega) fun s' p' out c' ns' k g o hp hgt hI hpw hmem hlen => ?_
  have hn : H1 p' = none := I2.hok.fresh hp
  have hle : (ns'.map V.int).length ≤ sizeLine := by rw [List.length_map, sizeLine_eq]; omega
  have J : Inv X pins σ (upd H1 p' (.lst (ns'.map V.int))) { ({ s1 with heap := h', toks := tk } : Shared) with heap := s'.heap, gens := s'.gens, drawn := s'.drawn, toks := s'.toks } :=
    I2.call (ch := []) (Un.laid k hp hn) (I2.hok.laid k hp ⟨hle, out.toList, c', vals_of_ints hI, hgt⟩) (by rw [g]; exact I2.bare) (fun _ z => nomatch z)
  have e : s' = { ({ s1 with heap := h', toks := tk } : Shared) with heap := s'.heap, gens := s'.gens, drawn := s'.drawn, toks := s'.toks } := by
    cases s'
    cases s1
    cases o
    rfl
  rw [e]
  exact ⟨.ref p', _, J, rfl, q1 ns' p' hpw (fun k => by rw [hmem k, decide_eq_true_eq]) hn⟩
end
section
variable {X : Cx} {K : PySem.W.Frag} {W : Wt} {Δ : List Kd} {a b e : Expr} {te ti tk tv ta tb : TE} {g gk gv ga gb : Gd} {fr fr' av : Bool} {pos p p2 q apos cpos : Pos} {x : Str} {m : Nat}
theorem se_sortSetU (ha : SE K W Δ te (.v av fr) g) : SE K W Δ (tSortSetU K te) (.new .l true) (gUn hSortSetU g) := fun f ρ σ H Q R q => by
  refine ha f ρ σ H _ R ?_
  unfold gUn at q
  cases e1 : g ρ with
  | bad => rw [e1] at q; exact q
  | ex z => rw [e1] at q; exact q
  | ok d =>
    rw [e1, bnd_ok] at q
    intro v H1 s1 x1
    cases d with
    | tuple es =>
      unfold hSortSetU at q
      simp only at q
      cases ea : allI es with
      | none => rw [ea] at q; exact q.elim
      | some ns =>
        rw [ea] at q
        simp only at q
        by_cases hl : ns.length < 64
        · rw [if_pos hl] at q
          obtain ⟨c, xs, rfl, hs, r⟩ := x1.sqt
          rw [rp_ints r ea] at hs
          refine ⟨c, ns, rfl, hs, hl, fun ns' p h1 h2 np => ?_⟩
          rw [← iset_of h1 h2] at q
          exact q p _ (s1.free np) (s1.trans (same_upd np)) ⟨_, _, rfl, upd_same, rpA_ints _⟩
        · rw [if_neg hl] at q
          exact q.elim
    | _ => exact q.elim
theorem x_sortSetU (hm : X.mg "sorted" = none) (hm2 : X.mg "set" = none) (h : PD X K W Δ a te (.v av fr) g) (hc : X.calm = true := by rfl) (hg : Gl X "sorted" := by rfl) (hg2 : Gl X "set" := by rfl) (na : starEach [a] X.env = (false, eval a X.env) :: starEach [] X.env := by rfl) :
    PD X K W Δ (.Call (.Name "sorted" p) [.Call (.Name "set" p2) [a] [] q] [] pos) (tSortSetU K te) (.new .l true) (gUn hSortSetU g) := ⟨by have w := pe_sortSetU (X := X) (p := p) (p2 := p2) (q := q) (pos := pos) hc hg hm hg2 hm2 h.pe na; rw [h.hK] at w; exact w, h.hK, se_sortSetU h.se⟩
theorem x_dnew1 (hk : PD X K W Δ a tk (.v av fr') gk) (hv : PD X K W Δ b tv (.v true fr) gv) : PD X K W Δ (.Dict [some a] [b] pos) (tDisp [(tk, tv)]) (.new .dk fr) (gDNew1 gk gv) :=
  ⟨pe_disp (pps_cons hk.pe hv.pe pps_nil) rfl rfl (fun h => nomatch h) (by show 1 ≤ 15; omega), hk.hK, se_dnew1 hk.se hv.se⟩
theorem x_dgetN (i : Nat) (hr : Room m X.A) (h : PD X K W Δ e te (.v av fr') g) (hk : Δ[i]? = some (.own .dk fr) := by rfl) (hv : Vis X.env.scope x := by first | exact Or.inl rfl | exact Or.inr (Or.inl rfl) | exact Or.inr (Or.inr rfl)) (hN : X.N[i]? = some x := by rfl) (hd : (x == ("__debug__" : Str)) = false := by decide) (hcd : (x == ("__classdict__" : Str)) = false := by decide)
    (m1 : attributeBase (.Name x p) "get" X.env (eval (.Name x p) X.env) = eval (.Name x p) X.env := by rfl)
    (m2 : ((backTo cpos (starEach [e] X.env)).all (fun x => !x.1) && (backToKw cpos (keywordEach [] X.env)).all (fun x => x.1.isSome) && decide (([e] : List Expr).length + ([] : List Keyword).length + (if ([] : List Keyword).isEmpty then 0 else 1) < 30)) = true := by rfl)
    (m3 : (apos.endLine == cpos.line) = true := by rfl) (m4 : backTo cpos (starEach [e] X.env) = [(false, eval e X.env)] := by rfl) :
    PD X K W Δ (.Call (.Attribute (.Name x p) "get" apos) [e] [] cpos) (tDGet1 (tVar i) te) (.v true fr) (gDGetN i g) := ⟨pe_dget1 (by have := hr.un; omega) (pe_var hN hv hd hcd) h.pe ⟨m1, m2, m3, m4⟩, h.hK, se_dgetN hk h.se⟩
theorem x_catT (ha : PD X K W Δ a ta (.v av fr) ga) (hb : PD X K W Δ b tb (.v av fr) gb) : PD X K W Δ (.BinOp a .Add b pos) (tOp (rCatA K) ta tb) (.v av fr) (gOp hCatT ga gb) :=
  ⟨pe_op (by have q := op_catA (X := X); rw [ha.hK] at q; exact q) ha.pe hb.pe, ha.hK, se_catT ha.se hb.se⟩
end
end Sim
end T_SimV

section T_SimW
set_option Elab.async false
set_option linter.all false
set_option maxRecDepth 100000
/-! SimW: dicts of one's own with keys that are tuples of ints; xs[::2], xs[1::2]. -/
namespace L2
open PySem PySem.Spec PyProof.Rows
/-- what stands at the places told -/
def pickV {α : Type} (ix : List Nat) (xs : List α) : List α := ix.filterMap (xs[·]?)
theorem Vals.pick {xs : List V} {us : List Value} (r : Vals xs us) : ∀ ix : List Nat, Vals (pickV ix xs) (pickV ix us)
  | [] => .nil
  | i :: ix => by
    unfold pickV
    rw [List.filterMap_cons, List.filterMap_cons]
    have ih := Vals.pick r ix
    unfold pickV at ih
    cases e : xs[i]? with
    | none =>
      have : us[i]? = none := by
        rw [List.getElem?_eq_none_iff] at e ⊢
        rw [← r.length]; exact e
      rw [this]
      exact ih
    | some x =>
      obtain ⟨u, hu, ru⟩ := r.get e
      rw [hu]
      exact .cons ru ih
/-- the places of [a::2] -/
def ix2 (a n : Nat) : List Nat := sliceRange ((if a ≤ n then a else n : Nat) : Int) (n : Int) 2
theorem pick_0 (its : List Value) : (slicePick its.toArray none none (some 2)).toList = pickV (ix2 0 its.length) its := by
  unfold slicePick pickV ix2
  have e : sliceBounds none none (some 2) its.toArray.size = (0, (its.length : Int), 2) := by
    unfold sliceBounds
    simp
  rw [e]
  simp
theorem pick_1 (its : List Value) : (slicePick its.toArray (some 1) none (some 2)).toList = pickV (ix2 1 its.length) its := by
  unfold slicePick pickV ix2
  have e : sliceBounds (some 1) none (some 2) its.toArray.size = (((if 1 ≤ its.length then 1 else its.length : Nat) : Int), (its.length : Int), 2) := by
    unfold sliceBounds
    simp only [List.size_toArray, Option.getD_some]
    by_cases h : 1 ≤ its.length
    · rw [if_pos h]
      simp
      omega
    · have : its.length = 0 := by omega
      rw [this]
      rfl
  rw [e]
  simp
theorem pick_len {α : Type} (a : Nat) (ha : a ≤ 1) (xs : List α) : (pickV (ix2 a xs.length) xs).length ≤ xs.length := by
  refine Nat.le_trans (List.length_filterMap_le _ _) ?_
  unfold ix2
  exact sliceRange_length_le _ _ 2 xs.length (fun _ => ⟨by omega, Int.le_refl _⟩) fun h => absurd (by decide) h
def tSt2 (K : PySem.W.Frag) (a : Nat) (te : TE) : TE := fun σ H Q => te σ H fun x H1 => ∃ l xs, x = .ref l ∧ SqL K H1 l xs ∧ ∀ p, H1 p = none → Q (.ref p) (upd H1 p (.lst (pickV (ix2 a xs.length) xs)))
section
variable {X : Cx} {e : Expr} {te : TE} {k k' : Nat} {p1 p2 p3 pos : Pos}
theorem pe_st2_0 (he : PE X e te) : PE X (.Subscript e (.Slice none none (some (.Constant (.int 2) k p1)) p3) pos) (tSt2 X.K 0 te) := by
  refine ⟨fun pins s σ H Q I h => ?_⟩
  refine Subscript_ (thn (he.run pins s σ H _ I h) fun v s1 ⟨x, H1, I1, r1, q1⟩ => ?_)
  obtain ⟨a, xs, ex, hx, q⟩ := q1
  subst ex
  cases r1
  have hst : PO X (some (.Constant (.int 2) k p1)) (tPart (tC (.int 2))) := po_some pe_int
  refine wpAny_Slice (thn (po_none.run pins s1 σ H1 (fun o H2 => o = none ∧ H2 = H1) I1 ⟨rfl, rfl⟩) fun vl s2 ⟨l, H2, I2, pl, el, e2⟩ => ?_)
  subst el e2
  refine thn (po_none.run pins s2 σ H2 (fun o H3 => o = none ∧ H3 = H2) I2 ⟨rfl, rfl⟩) fun vu s3 ⟨u, H3, I3, pu, eu, e3⟩ => ?_
  subst eu e3
  refine thn (hst.run pins s3 σ H3 (fun o H4 => o = some 2 ∧ H4 = H3) I3 ⟨2, rfl, rfl, rfl⟩) fun vs s4 ⟨o, H4, I4, ps, eo, e4⟩ => ?_
  subst eo e4
  have I5 : Inv X pins σ H4 { s4 with heap := s4.heap.push { cls := .type "slice", data := .fields #[vl, vu, vs] } } := I4.kept (t' := s4.toks) fun b ob q => Heap.get?_push_of_some _ q
  obtain ⟨its, r, ht, hz⟩ := I5.list hx
  have hlen := r.length
  show wpAny (model X.prog X.w) X.A (subscriptTail e (.Slice none none (some (.Constant (.int 2) k p1)) p3) (.ref a) (.ref s4.heap.objs.size)) (EP X pins σ Q) X.xe { s4 with heap := s4.heap.push { cls := .type "slice", data := .fields #[vl, vu, vs] } }
  refine tail_any (ops := [.ref a, .ref s4.heap.objs.size]) ht.isList.typeIs (PySem.slot_list_getitem.lookup) ?_ (by with_unfolding_all rfl)
  refine wpAny_getItem_list_slice ht.isList (Heap.IsSliceOf.new _ vl vu vs) pl pu ps (by decide) ?_ (by rw [List.size_toArray]; omega)
  refine ⟨.ref _, _, I5.laid (t' := s4.toks) (o := .lst (pickV (ix2 0 xs.length) xs)) (fun b ob q => Heap.get?_push_of_some _ q) (Nat.le_refl _) ?_, rfl, q _ (I5.hok.fresh (Nat.le_refl _))⟩
  have hv := r.pick (ix2 0 xs.length)
  have e5 := pick_0 its
  rw [← hlen] at e5
  rw [← e5] at hv
  exact ⟨Nat.le_trans (pick_len 0 (by omega) xs) hz, _, 0, hv, by rw [Array.toArray_toList]; exact Heap.get?_push_size _ rfl⟩
theorem pe_st2_1 (he : PE X e te) : PE X (.Subscript e (.Slice (some (.Constant (.int 1) k' p2)) none (some (.Constant (.int 2) k p1)) p3) pos) (tSt2 X.K 1 te) := by
  refine ⟨fun pins s σ H Q I h => ?_⟩
  refine Subscript_ (thn (he.run pins s σ H _ I h) fun v s1 ⟨x, H1, I1, r1, q1⟩ => ?_)
  obtain ⟨a, xs, ex, hx, q⟩ := q1
  subst ex
  cases r1
  have hst : PO X (some (.Constant (.int 2) k p1)) (tPart (tC (.int 2))) := po_some pe_int
  have hlo : PO X (some (.Constant (.int 1) k' p2)) (tPart (tC (.int 1))) := po_some pe_int
  refine wpAny_Slice (thn (hlo.run pins s1 σ H1 (fun o H2 => o = some 1 ∧ H2 = H1) I1 ⟨1, rfl, rfl, rfl⟩) fun vl s2 ⟨l, H2, I2, pl, el, e2⟩ => ?_)
  subst el e2
  refine thn (po_none.run pins s2 σ H2 (fun o H3 => o = none ∧ H3 = H2) I2 ⟨rfl, rfl⟩) fun vu s3 ⟨u, H3, I3, pu, eu, e3⟩ => ?_
  subst eu e3
  refine thn (hst.run pins s3 σ H3 (fun o H4 => o = some 2 ∧ H4 = H3) I3 ⟨2, rfl, rfl, rfl⟩) fun vs s4 ⟨o, H4, I4, ps, eo, e4⟩ => ?_
  subst eo e4
  have I5 : Inv X pins σ H4 { s4 with heap := s4.heap.push { cls := .type "slice", data := .fields #[vl, vu, vs] } } := I4.kept (t' := s4.toks) fun b ob q => Heap.get?_push_of_some _ q
  obtain ⟨its, r, ht, hz⟩ := I5.list hx
  have hlen := r.length
  show wpAny (model X.prog X.w) X.A (subscriptTail e (.Slice (some (.Constant (.int 1) k' p2)) none (some (.Constant (.int 2) k p1)) p3) (.ref a) (.ref s4.heap.objs.size)) (EP X pins σ Q) X.xe { s4 with heap := s4.heap.push { cls := .type "slice", data := .fields #[vl, vu, vs] } }
  refine tail_any (ops := [.ref a, .ref s4.heap.objs.size]) ht.isList.typeIs (PySem.slot_list_getitem.lookup) ?_ (by with_unfolding_all rfl)
  refine wpAny_getItem_list_slice ht.isList (Heap.IsSliceOf.new _ vl vu vs) pl pu ps (by decide) ?_ (by rw [List.size_toArray]; omega)
  refine ⟨.ref _, _, I5.laid (t' := s4.toks) (o := .lst (pickV (ix2 1 xs.length) xs)) (fun b ob q => Heap.get?_push_of_some _ q) (Nat.le_refl _) ?_, rfl, q _ (I5.hok.fresh (Nat.le_refl _))⟩
  have hv := r.pick (ix2 1 xs.length)
  have e5 := pick_1 its
  rw [← hlen] at e5
  rw [← e5] at hv
  exact ⟨Nat.le_trans (pick_len 1 (by omega) xs) hz, _, 0, hv, by rw [Array.toArray_toList]; exact Heap.get?_push_size _ rfl⟩
end
end L2
namespace Sim
open PySem PySem.Spec L2
open PyProof.Rows hiding St
section
variable {K : PySem.W.Frag} {F : Addr → Prop} {H : Hp}
theorem RpA.pick {xs : List V} {ds : List Dt} (r : RpA K F H xs ds) : ∀ ix : List Nat, RpA K F H (pickV ix xs) (pickV ix ds)
  | [] => .nil
  | i :: ix => by
    unfold pickV
    rw [List.filterMap_cons, List.filterMap_cons]
    have ih := RpA.pick r ix
    unfold pickV at ih
    cases e : xs[i]? with
    | none =>
      have : ds[i]? = none := by
        rw [List.getElem?_eq_none_iff] at e ⊢
        rw [← r.length]; exact e
      rw [this]
      exact ih
    | some x =>
      obtain ⟨u, hu, ru⟩ := r.get e
      rw [hu]
      exact .cons ru ih
end
def hSt2 (a : Nat) : Dt → O Dt := fun d => match d with
  | .list ds => .ok (.list (pickV (ix2 a ds.length) ds))
  | _ => .bad
/-! ### dicts with keys of ints in tuples -/
def isT (ns : List Int) (d : Dt) : Bool := match d with
  | .tuple xs => decide (allI xs = some ns)
  | _ => false
def tPut (es : List (Dt × Dt)) (ns : List Int) (v : Dt) : List (Dt × Dt) := if (es.any fun e => isT ns e.1) = true then es.map (fun e => if isT ns e.1 = true then (e.1, v) else e) else es ++ [(encL ns, v)]
theorem allI_int (i : Int) (ds : List Dt) : allI (.int i :: ds) = (allI ds).map fun ns => i :: ns := by
  conv => lhs; unfold allI
  first
  | done
  | (cases allI ds <;> rfl)
theorem allI_str (x : Str) (ds : List Dt) : allI (.str x :: ds) = none := rfl
theorem allI_keyD : ∀ {k : List Key} {ns : List Int}, allI (k.map keyD) = some ns ↔ k = ns.map Sum.inl
  | [], [] => by simp [allI]
  | [], _ :: _ => by simp [allI]
  | .inl i :: k, [] => by
    rw [List.map_cons]
    show allI (.int i :: k.map keyD) = some [] ↔ _
    rw [allI_int]
    cases allI (k.map keyD) <;> simp
  | .inl i :: k, n :: ns => by
    have ih := @allI_keyD k ns
    rw [List.map_cons]
    show allI (.int i :: k.map keyD) = some (n :: ns) ↔ _
    rw [allI_int, List.map_cons]
    constructor
    · intro z
      cases e : allI (k.map keyD) with
      | none => rw [e] at z; cases z
      | some ms =>
        rw [e] at z
        injection z with z
        injection z with z1 z2
        rw [z2] at e
        rw [ih.mp e, z1]
    · intro z
      injection z with z1 z2
      injection z1 with z1
      rw [ih.mpr z2, z1]
      rfl
  | .inr x :: k, ns => by
    rw [List.map_cons]
    show allI (.str x :: k.map keyD) = some ns ↔ _
    rw [allI_str]
    constructor
    · intro z; cases z
    · intro z
      cases ns with
      | nil => cases z
      | cons n ns => injection z with z1 z2; cases z1
theorem isT_keyD (ns : List Int) (k : List Key) : isT ns (.tuple (k.map keyD)) = decide (k = ns.map Sum.inl) := by
  show decide (allI (k.map keyD) = some ns) = _
  exact decide_eq_decide.mpr allI_keyD
section
variable {K : PySem.W.Frag} {F : Addr → Prop} {H : Hp}
theorem KtA.length : ∀ {kvs : List (List Key × V)} {es : List (Dt × Dt)}, KtA K F H kvs es → kvs.length = es.length
  | _, _, .nil => rfl
  | _, _, .cons _ r => by rw [List.length_cons, List.length_cons, r.length]
theorem KtA.any (ns : List Int) : ∀ {kvs : List (List Key × V)} {es : List (Dt × Dt)}, KtA K F H kvs es → (kvs.any fun kv => decide (kv.1 = ns.map Sum.inl)) = es.any fun e => isT ns e.1
  | _, _, .nil => rfl
  | _, _, .cons h r => by rw [List.any_cons, List.any_cons, r.any ns, isT_keyD]
theorem keyD_ints (ns : List Int) : (ns.map Sum.inl : List Key).map keyD = ns.map PyData.int := by rw [List.map_map]; rfl
theorem kV_ints (ns : List Int) : (ns.map Sum.inl : List Key).map kV = ns.map V.int := by rw [List.map_map]; rfl
theorem KtA.snoc {ns : List Int} {v : V} {d : Dt} (x : Rp K F H v d) : ∀ {kvs : List (List Key × V)} {es : List (Dt × Dt)}, KtA K F H kvs es → KtA K F H (kvs ++ [(ns.map Sum.inl, v)]) (es ++ [(encL ns, d)])
  | _, _, .nil => by
    have := KtA.cons (k := ns.map Sum.inl) x (KtA.nil (K := K) (F := F) (H := H))
    rw [keyD_ints] at this
    exact this
  | _, _, .cons h r => .cons h (r.snoc x)
theorem KtA.over {ns : List Int} {v : V} {d : Dt} (x : Rp K F H v d) : ∀ {kvs : List (List Key × V)} {es : List (Dt × Dt)}, KtA K F H kvs es → KtA K F H (kvs.map fun kv => if kv.1 = ns.map Sum.inl then (kv.1, v) else kv) (es.map fun e => if isT ns e.1 = true then (e.1, d) else e)
  | _, _, .nil => .nil
  | _, _, .cons (k := k') h r => by
    rw [List.map_cons, List.map_cons, isT_keyD]
    by_cases c : k' = ns.map Sum.inl
    · rw [if_pos c, if_pos (by simpa using c)]
      exact .cons x (r.over x)
    · rw [if_neg c, if_neg (by simpa using c)]
      exact .cons h (r.over x)
theorem KtA.put {ns : List Int} {v : V} {d : Dt} (x : Rp K F H v d) {kvs : List (List Key × V)} {es : List (Dt × Dt)} (h : KtA K F H kvs es) : KtA K F H (putK kvs (ns.map Sum.inl) v) (tPut es ns d) := by
  unfold putK tPut
  rw [h.any ns]
  split
  · exact h.over x
  · exact h.snoc x
theorem KtA.keys : ∀ {kvs : List (List Key × V)} {es : List (Dt × Dt)} {bs : List Addr}, KtA K F H kvs es → IsKeys H kvs bs → RpA K F H (bs.map V.ref) (es.map (·.1))
  | _, _, _, .nil, e => by cases e; exact .nil
  | _, _, _, .cons (k := k) h r, e => by
    cases e with
    | cons h1 h2 => exact .cons (.tup (.inl (.inl h1)) (rpA_keys k)) (r.keys h2)
where
  rpA_keys : ∀ k : List Key, RpA K F H (k.map kV) (k.map keyD)
    | [] => .nil
    | .inl i :: k => .cons (.int i) (rpA_keys k)
    | .inr x :: k => .cons (.str x) (rpA_keys k)
end
/-- found[a, b, c] = v -/
def gTPut (i : Nat) (gv : Gd) (gA : List Dt → O (List Dt)) : Gs := fun ρ => bnd (gv ρ) fun v => match dAt ρ i with
  | some es => bnd (gA ρ) fun ks => (match allI ks with
    | some ns => if es.length < 100000 ∧ ns.length ≤ 1000 then .ok (.nx (ρ.set i (.dict (tPut es ns v)))) else .bad
    | none => .bad)
  | none => .bad
/-- list(found) -/
def gTKeys (i : Nat) : Gd := fun ρ => match dAt ρ i with
  | some es => .ok (.list (es.map (·.1)))
  | none => .bad
section
variable {K : PySem.W.Frag} {W : Wt} {Δ Δb Δc : List Kd} {te : TE} {tA : TA} {ge g : Gd} {gA : List Dt → O (List Dt)} {fr fr' av fr2 : Bool} {L : Lk} {i : Nat}
theorem dt_own {f : Fm} {ρ : List Dt} {σ : L2.St} {H : Hp} {es : List (Dt × Dt)} (r : R K f Δ ρ σ H) (hk : Δ[i]? = some (.own .dt fr)) (h : dAt ρ i = some es) :
    ∃ p kvs, σ[i]? = some (some (V.ref p)) ∧ f.H0 p = none ∧ H p = some (.dT kvs) ∧ KtA K (FM f Δ σ true fr) H kvs es := by
  obtain ⟨p, d, g1, g2, g3, kvs, es', ed, g4, g5⟩ := r.ow i .dt fr hk
  rw [dAt_inv h] at g2
  cases g2
  cases ed
  exact ⟨p, kvs, g1, g3, g4, g5⟩
theorem se_dnewT : SE K W Δ tDNewT (.new .dt true) gDNew := fun f ρ σ H Q r q => fun p np => q p _ np (same_upd np) ⟨[], [], rfl, upd_same, .nil⟩
theorem s_tput (hk : Δ[i]? = some (.own .dt fr)) (h : SE K W Δ te (.v true fr') ge) (h2 : SA K W Δ tA av fr2 gA) : SS K W L Δ (Δ.set i (.own .dt (fr && fr'))) Δb Δc (sDPut (tVar i) (tTup tA) te) (gTPut i ge gA) := fun f ρ σ H E r q => h f ρ σ H _ r <| by
  unfold gTPut at q
  cases e : ge ρ with
  | bad => rw [e] at q; exact q
  | ex z => rw [e] at q; exact fun H' s => q σ H' (r.ext.trans s)
  | ok d =>
    rw [e, bnd_ok] at q
    cases ed : dAt ρ i with
    | none => rw [ed] at q; exact q.elim
    | some es =>
      rw [ed] at q
      simp only at q
      obtain ⟨p, kvs, g1, g3, g4, g5⟩ := dt_own r hk ed
      intro v H1 s x
      refine ⟨_, g1, h2 f ρ σ H1 _ (r.mono s) ?_⟩
      cases e2 : gA ρ with
      | bad => rw [e2] at q; exact q
      | ex z => rw [e2] at q; exact fun H' s2 => q σ H' ((r.ext.trans s).trans s2)
      | ok ks =>
        rw [e2, bnd_ok] at q
        intro vs H2 s2 xk
        cases ek : allI ks with
        | none => rw [ek] at q; exact q.elim
        | some ns =>
          rw [ek] at q
          simp only at q
          by_cases hl : es.length < 100000 ∧ ns.length ≤ 1000
          · rw [if_pos hl] at q
            rw [rp_ints xk ek]
            refine ⟨by rw [List.length_map]; exact Nat.le_trans hl.2 (by decide), fun b nb => ?_⟩
            have s3 : Same H2 (upd H2 b (.tup (ns.map V.int))) := same_upd nb
            have s13 := (s.trans s2).trans s3
            have hp := s13 _ _ g4
            have eb : (upd H2 b (.tup (ns.map V.int))) b = some (.tup ((ns.map Sum.inl : List Key).map kV)) := by rw [kV_ints]; exact upd_same
            refine ⟨p, _, rfl, DPut.t hp eb (by rw [g5.length]; exact Nat.lt_of_lt_of_le hl.1 (by decide)), q σ _ ?_⟩
            refine (r.mono s13).updOwn hk g1 (c' := .dt) (show Mutb (.dT _) from trivial) ⟨_, _, rfl, upd_same, ?_⟩
            have nf : ∀ {fr : Bool} (a : Addr), FM f Δ σ true fr a → a ≠ p := fun a fa z => (fa.1 rfl).1 (z ▸ ⟨i, .dt, _, hk, g1⟩)
            refine KtA.put ((Rp.updM hp trivial (fun a fa => nf a fa) ((x.same s2).same s3)).weak fun a y => y.weak id fun h => (Bool.and_eq_true_iff.mp h).2) ?_
            exact g5.map fun v d z => (Rp.updM hp trivial (fun a fa => nf a fa) (z.same s13)).weak fun a y => y.weak id fun h => (Bool.and_eq_true_iff.mp h).1
          · rw [if_neg hl] at q
            exact q.elim
theorem se_tkeys (hk : Δ[i]? = some (.own .dt fr)) : SE K W Δ (tCB (fun xs H Q => ∃ d kvs, xs = [V.ref d] ∧ Rd H d (.dT kvs) ∧ ∀ p bs, H p = none → IsKeys H kvs bs → Q (.ref p) (upd H p (.lst (bs.map V.ref)))) (tCons (tVar i) tNil)) (.new .l fr) (gTKeys i) := fun f ρ σ H Q r q => by
  unfold gTKeys at q
  cases ed : dAt ρ i with
  | none => rw [ed] at q; exact q.elim
  | some es =>
    rw [ed] at q
    obtain ⟨p, kvs, g1, g3, g4, g5⟩ := dt_own r hk ed
    refine ⟨_, g1, p, kvs, rfl, .inl g4, fun l bs nl hb => ?_⟩
    refine q l _ nl (same_upd nl) ⟨_, _, rfl, upd_same, ?_⟩
    exact (g5.keys hb).mono (same_upd nl) fun a y z => ⟨y, fun e => z (e ▸ nl)⟩
theorem se_st2 (a : Nat) (ha : SE K W Δ te (.v true fr) g) : SE K W Δ (tSt2 K a te) (.new .l fr) (gUn (hSt2 a) g) := fun f ρ σ H Q R q => by
  refine ha f ρ σ H _ R ?_
  unfold gUn at q
  cases e1 : g ρ with
  | bad => rw [e1] at q; exact q
  | ex z => rw [e1] at q; exact q
  | ok d =>
    rw [e1, bnd_ok] at q
    intro v H1 s1 x1
    cases d with
    | list es =>
      obtain ⟨c, xs, rfl, hs, r⟩ := x1.sql
      refine ⟨c, xs, rfl, hs, fun p np => q p _ (s1.free np) (s1.trans (same_upd np)) ⟨_, _, rfl, upd_same, ?_⟩⟩
      rw [r.length]
      exact (r.pick _).mono (same_upd np) fun a y z => ⟨y, fun e => z (e ▸ np)⟩
    | _ => exact q.elim
theorem se_st2O (a : Nat) (ha : SE K W Δ te (.o fr) g) : SE K W Δ (tSt2 K a te) (.new .l fr) (gUn (hSt2 a) g) := fun f ρ σ H Q R q => by
  refine ha f ρ σ H _ R ?_
  unfold gUn at q
  cases e1 : g ρ with
  | bad => rw [e1] at q; exact q
  | ex z => rw [e1] at q; exact q
  | ok d =>
    rw [e1, bnd_ok] at q
    intro p H1 vs ds ed s1 hp gp x1
    subst ed
    refine ⟨p, vs, rfl, .inl (.inl hp), fun p np => q p _ (s1.free np) (s1.trans (same_upd np)) ⟨_, _, rfl, upd_same, ?_⟩⟩
    rw [x1.length]
    exact (x1.pick _).mono (same_upd np) fun a y z => ⟨y, fun e => z (e ▸ np)⟩
end
section
variable {X : Cx} {K : PySem.W.Frag} {W : Wt} {Δ Δb Δc : List Kd} {a b e : Expr} {es : List Expr} {te : TE} {tA : TA} {g ge : Gd} {gA : List Dt → O (List Dt)} {fr fr' fr2 av : Bool} {L : Lk} {pos pos' p p1 p2 p3 pT : Pos} {x : Str} {k k' m : Nat}
theorem x_dnewT (hK : X.K = K := by rfl) : PD X K W Δ (.Dict [] [] pos) tDNewT (.new .dt true) gDNew := ⟨pe_dnewT, hK, se_dnewT⟩
theorem x_st2_0 (h : PD X K W Δ e te (.v true fr) g) : PD X K W Δ (.Subscript e (.Slice none none (some (.Constant (.int 2) k p1)) p3) pos) (tSt2 K 0 te) (.new .l fr) (gUn (hSt2 0) g) := ⟨by have q := pe_st2_0 (X := X) (k := k) (p1 := p1) (p3 := p3) (pos := pos) h.pe; rw [h.hK] at q; exact q, h.hK, se_st2 0 h.se⟩
theorem x_st2_1 (h : PD X K W Δ e te (.v true fr) g) : PD X K W Δ (.Subscript e (.Slice (some (.Constant (.int 1) k' p2)) none (some (.Constant (.int 2) k p1)) p3) pos) (tSt2 K 1 te) (.new .l fr) (gUn (hSt2 1) g) := ⟨by have q := pe_st2_1 (X := X) (k := k) (k' := k') (p1 := p1) (p2 := p2) (p3 := p3) (pos := pos) h.pe; rw [h.hK] at q; exact q, h.hK, se_st2 1 h.se⟩
theorem x_st2O_0 (h : PD X K W Δ e te (.o fr) g) : PD X K W Δ (.Subscript e (.Slice none none (some (.Constant (.int 2) k p1)) p3) pos) (tSt2 K 0 te) (.new .l fr) (gUn (hSt2 0) g) := ⟨by have q := pe_st2_0 (X := X) (k := k) (p1 := p1) (p3 := p3) (pos := pos) h.pe; rw [h.hK] at q; exact q, h.hK, se_st2O 0 h.se⟩
theorem x_st2O_1 (h : PD X K W Δ e te (.o fr) g) : PD X K W Δ (.Subscript e (.Slice (some (.Constant (.int 1) k' p2)) none (some (.Constant (.int 2) k p1)) p3) pos) (tSt2 K 1 te) (.new .l fr) (gUn (hSt2 1) g) := ⟨by have q := pe_st2_1 (X := X) (k := k) (k' := k') (p1 := p1) (p2 := p2) (p3 := p3) (pos := pos) h.pe; rw [h.hK] at q; exact q, h.hK, se_st2O 1 h.se⟩
theorem z_tput (i : Nat) {x1} (hr : Room m X.A) (h : PD X K W Δ e te (.v true fr') ge) (h2 : AD X K W Δ es tA av fr2 gA) (hk : Δ[i]? = some (.own .dt fr) := by rfl) (hv : Vis X.env.scope x := by first | exact Or.inl rfl | exact Or.inr (Or.inl rfl) | exact Or.inr (Or.inr rfl)) (hN : X.N[i]? = some x := by rfl) (hd : (x == ("__debug__" : Str)) = false := by decide) (hcd : (x == ("__classdict__" : Str)) = false := by decide) (hs : swapsWith e (some (.Subscript (.Name x p) (.Tuple es x1 pT) pos')) pos.line X.env = pure false := by rfl) :
    SD X K W L Δ (Δ.set i (.own .dt (fr && fr'))) Δb Δc (.Assign [.Subscript (.Name x p) (.Tuple es x1 pT) pos'] e pos) (sDPut (tVar i) (tTup tA) te) (gTPut i ge gA) := ⟨ps_dput (by have := hr.un; omega) (pe_var hN hv hd hcd) (pe_tup h2.pa) h.pe hs, h.hK, s_tput hk h.se h2.sa⟩
theorem x_tkeys (i : Nat) (hm : X.mg "list" = none) (hk : Δ[i]? = some (.own .dt fr) := by rfl) (hc : X.calm = true := by rfl) (hK : X.K = K := by rfl) (hv : Vis X.env.scope x := by first | exact Or.inl rfl | exact Or.inr (Or.inl rfl) | exact Or.inr (Or.inr rfl)) (hN : X.N[i]? = some x := by rfl) (hd : (x == ("__debug__" : Str)) = false := by decide) (hcd : (x == ("__classdict__" : Str)) = false := by decide) (hg : Gl X "list" := by rfl)
    (he : starEach [.Name x p] X.env = (false, eval (.Name x p) X.env) :: starEach [] X.env := by rfl) (hpl : (backTo pos (starEach [] X.env)).any (·.1) = false := by rfl) :
    PD X K W Δ (.Call (.Name "list" p1) [.Name x p] [] pos) (tCB (fun xs H Q => ∃ d kvs, xs = [V.ref d] ∧ Rd H d (.dT kvs) ∧ ∀ p bs, H p = none → IsKeys H kvs bs → Q (.ref p) (upd H p (.lst (bs.map V.ref)))) (tCons (tVar i) tNil)) (.new .l fr) (gTKeys i) :=
  ⟨pe_callTy (call_list_dT hc) hg hm (by decide +kernel) (pa_cons (pe_var hN hv hd hcd) pa_nil he) (by decide) (by decide) he hpl, hK, se_tkeys hk⟩
end
end Sim
end T_SimW

section T_SimM
set_option Elab.async false
set_option linter.all false
set_option maxRecDepth 100000
/-! SimM: defs that change their first argument (a list or dict of scalars), and expressions in which they are called. -/
namespace Sim
open PySem PySem.Spec L2
open PyProof.Rows hiding St

abbrev Gx := List Dt → O (Dt × List Dt)
abbrev Fm.pn (f : Fm) (p : Addr) : Fm := { f with P := p :: f.P }

def PoX (K : PySem.W.Frag) (f : Fm) (Δ : List Kd) (σ : L2.St) (k : Rk) (o : O (Dt × List Dt)) (Q : VK) : Prop := match o with
  | .ok (d, ρ') => (match k with
    | .v av fr => ∀ v H', R K f Δ ρ' σ H' → Rp K (FM f Δ σ av fr) H' v d → Q v H'
    | .new c fr => ∀ p H', R K (f.pn p) Δ ρ' σ H' → p ∉ f.P → f.H0 p = none → OwC K c (FM (f.pn p) Δ σ true fr) H' p d → Q (.ref p) H'
    | .o _ => False)
  | _ => False
def SX (K : PySem.W.Frag) (Δ : List Kd) (te : TE) (k : Rk) (g : Gx) : Prop := ∀ f ρ σ H Q, R K f Δ ρ σ H → PoX K f Δ σ k (g ρ) Q → te σ H Q
def PoXA (K : PySem.W.Frag) (f : Fm) (Δ : List Kd) (σ : L2.St) (av fr : Bool) (o : O (List Dt × List Dt)) (Q : List V → Hp → Prop) : Prop := match o with
  | .ok (ds, ρ') => ∀ vs H', R K f Δ ρ' σ H' → RpA K (FM f Δ σ av fr) H' vs ds → Q vs H'
  | _ => False
def SXA (K : PySem.W.Frag) (Δ : List Kd) (ta : TA) (av fr : Bool) (g : List Dt → O (List Dt × List Dt)) : Prop := ∀ f ρ σ H Q, R K f Δ ρ σ H → PoXA K f Δ σ av fr (g ρ) Q → ta σ H Q
def PoXT (K : PySem.W.Frag) (f : Fm) (Δ : List Kd) (σ : L2.St) (o : O (Bool × List Dt)) (Q : Bool → Hp → Prop) : Prop := match o with
  | .ok (b, ρ') => ∀ H', R K f Δ ρ' σ H' → Q b H'
  | _ => False
def SXT (K : PySem.W.Frag) (Δ : List Kd) (tt : TT) (g : List Dt → O (Bool × List Dt)) : Prop := ∀ f ρ σ H Q, R K f Δ ρ σ H → PoXT K f Δ σ (g ρ) Q → tt σ H Q

/-! ### closures -/
def xP (g : Gd) : Gx := fun ρ => bnd (g ρ) fun d => .ok (d, ρ)
def xPA (g : List Dt → O (List Dt)) : List Dt → O (List Dt × List Dt) := fun ρ => bnd (g ρ) fun d => .ok (d, ρ)
def xPT (g : List Dt → O Bool) : List Dt → O (Bool × List Dt) := fun ρ => bnd (g ρ) fun d => .ok (d, ρ)
def xOp (h : Dt → Dt → O Dt) (a b : Gx) : Gx := fun ρ => bnd (a ρ) fun x => bnd (b x.2) fun y => bnd (h x.1 y.1) fun z => .ok (z, y.2)
def xNil : List Dt → O (List Dt × List Dt) := fun ρ => .ok ([], ρ)
def xCons (a : Gx) (b : List Dt → O (List Dt × List Dt)) : List Dt → O (List Dt × List Dt) := fun ρ => bnd (a ρ) fun x => bnd (b x.2) fun y => .ok (x.1 :: y.1, y.2)
def xCB (h : List Dt → O Dt) (a : List Dt → O (List Dt × List Dt)) : Gx := fun ρ => bnd (a ρ) fun x => bnd (h x.1) fun z => .ok (z, x.2)
def xTup (a : List Dt → O (List Dt × List Dt)) : Gx := fun ρ => bnd (a ρ) fun x => if x.1.length ≤ 100000 then .ok (.tuple x.1, x.2) else .bad
def xLst (a : List Dt → O (List Dt × List Dt)) : Gx := fun ρ => bnd (a ρ) fun x => if x.1.length ≤ 100000 then .ok (.list x.1, x.2) else .bad
def xTest (a : Gx) : List Dt → O (Bool × List Dt) := fun ρ => bnd (a ρ) fun x => bnd (asB x.1) fun b => .ok (b, x.2)
def xNot (t : List Dt → O (Bool × List Dt)) : List Dt → O (Bool × List Dt) := fun ρ => bnd (t ρ) fun x => .ok (!x.1, x.2)
def xAnd (t u : List Dt → O (Bool × List Dt)) : List Dt → O (Bool × List Dt) := fun ρ => bnd (t ρ) fun x => if x.1 then u x.2 else .ok (false, x.2)
def xOr (t u : List Dt → O (Bool × List Dt)) : List Dt → O (Bool × List Dt) := fun ρ => bnd (t ρ) fun x => if x.1 then .ok (true, x.2) else u x.2
def xIxO (i : Nat) (b : Gx) : Gx := fun ρ => bnd (b ρ) fun y => match y.2[i]? with
  | some a => bnd (hIx a y.1) fun z => .ok (z, y.2)
  | none => .bad
def xCallN (n : Nat) (g : List Dt → O Dt) (gA : List Dt → O (List Dt × List Dt)) : Gx := fun ρ => bnd (gA ρ) fun x => if x.1.length = n then (match g x.1 with
  | .ok d => .ok (d, x.2)
  | _ => .bad) else .bad
def argK : Ct → Dt → Bool
  | .la, .list es => sclA es
  | .ka, .dict es => sclV es
  | _, _ => false
def xCallM (c : Ct) (n : Nat) (g : List Dt → O Dt) (i : Nat) (gA : List Dt → O (List Dt × List Dt)) : Gx := fun ρ => bnd (gA ρ) fun x => if x.1.length + 1 = n then (match x.2[i]? with
  | some a => if argK c a then (match g (a :: x.1) with
    | .ok (.tuple [r, e]) => if argK c e then .ok (r, x.2.set i e) else .bad
    | _ => .bad) else .bad
  | none => .bad) else .bad
def bx {α β : Type} (x : O α) (f : α → O β) : O β := match x with
  | .ok a => f a
  | _ => .bad
def xSet (i : Nat) (g : Gx) : Gs := fun ρ => bx (g ρ) fun x => .ok (.nx (x.2.set i x.1))
def xAsg (g : Gx) (h : Dt → List Dt → O (List Dt)) : Gs := fun ρ => bx (g ρ) fun x => match h x.1 x.2 with
  | .ok ρ' => .ok (.nx ρ')
  | _ => .bad
def xDrop (g : Gx) : Gs := fun ρ => bx (g ρ) fun x => .ok (.nx x.2)
def xIfS (t : List Dt → O (Bool × List Dt)) (a b : Gs) : Gs := fun ρ => bx (t ρ) fun x => if x.1 then a x.2 else b x.2
def xRet (g : Gx) : Gs := fun ρ => bx (g ρ) fun x => .ok (.rt x.1)
def argD : Dt → Bool
  | .list es => sclA es
  | .dict es => sclV es
  | _ => false
def xRetM (g : Gx) : Gs := fun ρ => bx (g ρ) fun x => match x.2[0]? with
  | some e => if argD e then .ok (.rt (.tuple [x.1, e])) else .bad
  | none => .bad
def xApp (i : Nat) (g : Gx) : Gs := fun ρ => bx (g ρ) fun x => match x.2[i]? with
  | some (.list ds) => if ds.length < 100000 then .ok (.nx (x.2.set i (.list (ds ++ [x.1])))) else .bad
  | _ => .bad
def xFor (gi : List Dt → O (List Dt × List Dt)) (h : Dt → List Dt → O (List Dt)) (b : Gs) : Gs := fun ρ => bx (gi ρ) fun x => forE h b x.1 x.2

theorem sclA_any {K : PySem.W.Frag} {F F' : Addr → Prop} {H H' : Hp} : ∀ {vs : List V} {ds : List Dt}, RpA K F H vs ds → sclA ds = true → RpA K F' H' vs ds
  | _, _, .nil, _ => .nil
  | _, _, .cons h r, e => by
    unfold sclA at e
    rw [Bool.and_eq_true] at e
    exact .cons (h.scl_any e.1) (sclA_any r e.2)
theorem sclV_any {K : PySem.W.Frag} {F F' : Addr → Prop} {H H' : Hp} : ∀ {vs : List (L2.Key × V)} {ds : List (Dt × Dt)}, KvA K F H vs ds → sclV ds = true → KvA K F' H' vs ds
  | _, _, .nil, _ => .nil
  | _, _, .cons h r, e => by
    unfold sclV at e
    rw [Bool.and_eq_true] at e
    exact .cons (h.scl_any e.1) (sclV_any r e.2)

section
variable {K : PySem.W.Frag} {f : Fm} {Δ : List Kd} {ρ : List Dt} {σ : L2.St} {H H' : Hp} {p : Addr} {d : Dt} {i : Nat}
theorem R.pinNew (r : R K f Δ ρ σ H) (np : H p = none) (e : Same H H') (m : ∃ o, H' p = some o ∧ Mutb o) : R K (f.pn p) Δ ρ σ H' := by
  obtain ⟨f1, f2, f3⟩ := r.fresh np
  have key : ∀ {fr : Bool} {v : V} {d : Dt}, Rp K (FM f Δ σ true fr) H v d → Rp K (FM (f.pn p) Δ σ true fr) H' v d := fun h =>
    h.mono e fun a fa na => ⟨fun _ => ⟨(fa.1 rfl).1, fun z => by
      rcases List.mem_cons.mp z with e | h
      · exact na (e ▸ np)
      · exact (fa.1 rfl).2 h⟩, fa.2⟩
  refine ⟨r.ext.trans e, r.g0, r.lσ, r.lρ, r.inj, fun a ha => ?_, fun g hg => (r.gh g hg).map fun _ _ x => key x, fun i fr h => ?_, fun i c fr h => ?_, r.ar⟩
  · rcases List.mem_cons.mp ha with q | h
    · subst q
      exact ⟨m, f1⟩
    · obtain ⟨⟨u, hu, mu⟩, no⟩ := r.pin a h
      exact ⟨⟨u, e _ _ hu, mu⟩, no⟩
  · obtain ⟨v, d, h1, h2, h3⟩ := r.im i fr h
    exact ⟨v, d, h1, h2, key h3⟩
  · obtain ⟨v, d, h1, h2, h3, h4⟩ := r.ow i c fr h
    exact ⟨v, d, h1, h2, h3, h4.map (fun o q => e _ _ q) fun _ _ x => key x⟩
theorem R.dropP (r : R K (f.pn p) Δ ρ σ H) : R K f Δ ρ σ H := by
  have key : ∀ {fr : Bool} {v : V} {d : Dt}, Rp K (FM (f.pn p) Δ σ true fr) H v d → Rp K (FM f Δ σ true fr) H v d := fun h =>
    h.weak fun a fa => ⟨fun _ => ⟨(fa.1 rfl).1, fun z => (fa.1 rfl).2 (List.mem_cons_of_mem _ z)⟩, fa.2⟩
  refine ⟨r.ext, r.g0, r.lσ, r.lρ, r.inj, fun a ha => r.pin a (List.mem_cons_of_mem _ ha), fun g hg => (r.gh g hg).map fun _ _ x => key x, fun i fr h => ?_, fun i c fr h => ?_, r.ar⟩
  · obtain ⟨v, d, h1, h2, h3⟩ := r.im i fr h
    exact ⟨v, d, h1, h2, key h3⟩
  · obtain ⟨v, d, h1, h2, h3, h4⟩ := r.ow i c fr h
    exact ⟨v, d, h1, h2, h3, h4.map (fun o q => q) fun _ _ x => key x⟩
/-- a pinned new object becomes a slot's own -/
theorem R.setOwnP {c : Ct} {fr : Bool} (r : R K (f.pn p) Δ ρ σ H) (hi : i < Δ.length) (h0 : f.H0 p = none) (hP : p ∉ f.P) (h : OwC K c (FM (f.pn p) Δ σ true fr) H p d) (hc : isArg c = false := by rfl) :
    R K f (Δ.set i (.own c fr)) (ρ.set i d) (σ.set i (some (.ref p))) H := by
  have np : ¬ Ow Δ σ p := (r.pin p List.mem_cons_self).2
  have ow' : ∀ a, Ow (Δ.set i (.own c fr)) (σ.set i (some (.ref p))) a → Ow Δ σ a ∨ a = p := fun a => by
    rintro ⟨j, cj, fj, h1, h2⟩
    by_cases z : i = j
    · subst z
      rw [List.getElem?_set_self (by rw [r.lσ]; exact hi)] at h2
      cases h2
      exact .inr rfl
    · rw [List.getElem?_set_ne z] at h1 h2
      exact .inl ⟨j, cj, fj, h1, h2⟩
  have key : ∀ {fr' : Bool} {v' : V} {d' : Dt}, Rp K (FM (f.pn p) Δ σ true fr') H v' d' → Rp K (FM f (Δ.set i (.own c fr)) (σ.set i (some (.ref p))) true fr') H v' d' := fun h =>
    h.weak fun a fa => ⟨fun _ => ⟨fun z => by
      rcases ow' a z with z | z
      · exact (fa.1 rfl).1 z
      · exact (fa.1 rfl).2 (z ▸ List.mem_cons_self), fun z => (fa.1 rfl).2 (List.mem_cons_of_mem _ z)⟩, fa.2⟩
  refine ⟨r.ext, r.g0, by rw [List.length_set, List.length_set]; exact r.lσ, by rw [List.length_set, List.length_set]; exact r.lρ, ?_, fun a ha => ⟨(r.pin a (List.mem_cons_of_mem _ ha)).1, fun z => ?_⟩, fun g hg => (r.gh g hg).map fun _ _ x => key x, fun j fj h' => ?_, fun j cj fj h' => ?_, fun j cj fj h' ha => ?_⟩
  · have g : ∀ {j : Nat} {cj : Ct} {fj : Bool} {q : Addr}, (Δ.set i (Kd.own c fr))[j]? = some (Kd.own cj fj) → (σ.set i (some (V.ref p)))[j]? = some (some (V.ref q)) → (i = j ∧ q = p) ∨ (i ≠ j ∧ Δ[j]? = some (Kd.own cj fj) ∧ σ[j]? = some (some (V.ref q)) ∧ q ≠ p) := fun {j cj fj q} h h2 => by
      by_cases z : i = j
      · subst z
        rw [List.getElem?_set_self (by rw [r.lσ]; exact hi)] at h2
        cases h2
        exact .inl ⟨rfl, rfl⟩
      · rw [List.getElem?_set_ne z] at h h2
        exact .inr ⟨z, h, h2, fun y => np ⟨j, cj, fj, h, y ▸ h2⟩⟩
    intro j k cj fj ck fk q h1 h2 h3 h4
    rcases g h1 h3 with ⟨a1, b1⟩ | ⟨a1, b1, c1, d1⟩
    · rcases g h2 h4 with ⟨a2, b2⟩ | ⟨a2, b2, c2, d2⟩
      · exact a1 ▸ a2
      · exact (d2 b1).elim
    · rcases g h2 h4 with ⟨a2, b2⟩ | ⟨a2, b2, c2, d2⟩
      · exact (d1 b2).elim
      · exact r.inj j k _ _ _ _ q b1 b2 c1 c2
  · rcases ow' a z with z | z
    · exact (r.pin a (List.mem_cons_of_mem _ ha)).2 z
    · exact hP (z ▸ ha)
  · by_cases z : i = j
    · subst z
      rw [List.getElem?_set_self hi] at h'
      cases h'
    · rw [List.getElem?_set_ne z] at h'
      obtain ⟨v', d', h1, h2, h3⟩ := r.im j fj h'
      exact ⟨v', d', by rw [List.getElem?_set_ne z]; exact h1, by rw [List.getElem?_set_ne z]; exact h2, key h3⟩
  · by_cases z : i = j
    · subst z
      rw [List.getElem?_set_self hi] at h'
      cases h'
      exact ⟨p, d, by rw [List.getElem?_set_self (by rw [r.lσ]; exact hi)], by rw [List.getElem?_set_self (by rw [r.lρ]; exact hi)], h0, h.map (fun o e => e) fun _ _ x => key x⟩
    · rw [List.getElem?_set_ne z] at h'
      obtain ⟨q, d', h1, h2, h3, h4⟩ := r.ow j cj fj h'
      exact ⟨q, d', by rw [List.getElem?_set_ne z]; exact h1, by rw [List.getElem?_set_ne z]; exact h2, h3, h4.map (fun u x => x) fun _ _ x => key x⟩
  · by_cases z : i = j
    · subst z
      rw [List.getElem?_set_self hi] at h'
      cases h'
      rw [hc] at ha
      cases ha
    · rw [List.getElem?_set_ne z] at h'
      obtain ⟨q, h1, h2⟩ := r.ar j cj fj h' ha
      exact ⟨q, h1, by rw [List.getElem?_set_ne z]; exact h2⟩
end

section
variable {K : PySem.W.Frag} {W : Wt} {Δ Δn Δb Δc : List Kd} {ta tb te : TE} {tt tu : TT} {tA : TA} {g : Gd} {ga gb gx : Gx} {gt gu : List Dt → O (Bool × List Dt)} {gA : List Dt → O (List Dt × List Dt)} {k : Rk} {av fr av' fr' : Bool} {L : Lk} {i : Nat} {t u : TS} {g1 g2 : Gs}

/-! ### from what changes nothing -/
theorem SX.of (h : SE K W0 Δ te (.v av fr) g) : SX K Δ te (.v av fr) (xP g) := fun f ρ σ H Q r q => h f ρ σ H Q r <| by
  unfold xP at q
  cases e : g ρ with
  | bad => rw [e] at q; exact q.elim
  | ex z => rw [e] at q; exact q.elim
  | ok d => rw [e] at q; exact fun v H' s x => q v H' (r.mono s) x
theorem SX.ofN {c : Ct} (h : SE K W0 Δ te (.new c fr) g) : SX K Δ te (.new c fr) (xP g) := fun f ρ σ H Q r q => h f ρ σ H Q r <| by
  unfold xP at q
  cases e : g ρ with
  | bad => rw [e] at q; exact q.elim
  | ex z => rw [e] at q; exact q.elim
  | ok d =>
    rw [e] at q
    intro p H' np s x
    obtain ⟨f1, f2, f3⟩ := r.fresh np
    refine q p H' (r.pinNew np s x.mutb) f2 f3 (x.map (fun _ e => e) fun _ _ y => y.weak fun a fa => ⟨fun _ => ⟨(fa.1.1 rfl).1, fun z => ?_⟩, fa.1.2⟩)
    rcases List.mem_cons.mp z with z | z
    · exact fa.2 z
    · exact (fa.1.1 rfl).2 z
theorem SXA.of {gA : List Dt → O (List Dt)} (h : SA K W0 Δ tA av fr gA) : SXA K Δ tA av fr (xPA gA) := fun f ρ σ H Q r q => h f ρ σ H Q r <| by
  unfold xPA at q
  cases e : gA ρ with
  | bad => rw [e] at q; exact q.elim
  | ex z => rw [e] at q; exact q.elim
  | ok d => rw [e] at q; exact fun v H' s x => q v H' (r.mono s) x
theorem SXT.of {gt : List Dt → O Bool} (h : ST K W0 Δ tt gt) : SXT K Δ tt (xPT gt) := fun f ρ σ H Q r q => h f ρ σ H Q r <| by
  unfold xPT at q
  cases e : gt ρ with
  | bad => rw [e] at q; exact q.elim
  | ex z => rw [e] at q; exact q.elim
  | ok d => rw [e] at q; exact fun H' s => q H' (r.mono s)
theorem SX.wk (h : SX K Δ te (.v av fr) gx) (h1 : av' = true → av = true := by decide) (h2 : fr' = true → fr = true := by decide) : SX K Δ te (.v av' fr') gx := fun f ρ σ H Q r q => h f ρ σ H Q r <| by
  cases e : gx ρ with
  | bad => rw [e] at q; exact q.elim
  | ex z => rw [e] at q; exact q.elim
  | ok d => rw [e] at q; exact fun v H' s x => q v H' s (x.fm h1 h2)
/-- a new list, as a value -/
theorem SX.nv (h : SX K Δ te (.new .l fr) gx) : SX K Δ te (.v true fr) gx := fun f ρ σ H Q r q => h f ρ σ H Q r <| by
  cases e : gx ρ with
  | bad => rw [e] at q; exact q.elim
  | ex z => rw [e] at q; exact q.elim
  | ok d =>
    rw [e] at q
    intro p H' r' hP h0 x
    obtain ⟨vs, ds, ed, hp, x⟩ := x
    have no := (r'.pin p List.mem_cons_self).2
    have q : ∀ v H', R K f Δ d.2 σ H' → Rp K (FM f Δ σ true fr) H' v d.1 → Q v H' := q
    rw [ed] at q
    exact q _ H' r'.dropP (.lst hp ⟨fun _ => ⟨no, hP⟩, fun _ => r'.g0 p h0⟩ (x.weak fun a fa => ⟨fun _ => ⟨(fa.1 rfl).1, fun z => (fa.1 rfl).2 (List.mem_cons_of_mem _ z)⟩, fa.2⟩))

/-! ### operators, argument lists, displays -/
theorem bnd_inv' {α β : Type} {x : O α} {k : α → O β} {P : O β → Prop} (hb : ¬ P .bad) (he : ∀ e, ¬ P (.ex e)) (h : P (bnd x k)) : ∃ a, x = .ok a ∧ P (k a) := by
  cases x with
  | bad => exact (hb h).elim
  | ex e => exact (he e h).elim
  | ok a => exact ⟨a, rfl, h⟩
theorem sx_op {r : R2} {h : Dt → Dt → O Dt} (hs : Scl2 h) (ho : OSc K r h) (ha : SX K Δ ta (.v true fr) ga) (hb : SX K Δ tb (.v av' fr') gb) : SX K Δ (tOp r ta tb) (.v true true) (xOp h ga gb) := fun f ρ σ H Q R q => by
  refine ha f ρ σ H _ R ?_
  unfold xOp at q
  obtain ⟨⟨d, ρ1⟩, e1, q⟩ := bnd_inv' (P := fun o => PoX K f Δ σ (.v true true) o Q) id (fun _ => id) q
  rw [e1]
  intro v H1 R1 x1
  have R1' := R1.addG (fr := fr) (.cons x1 .nil)
  refine hb _ ρ1 σ H1 _ R1' ?_
  obtain ⟨⟨d2, ρ2⟩, e2, q⟩ := bnd_inv' (P := fun o => PoX K f Δ σ (.v true true) o Q) id (fun _ => id) q
  have e2 : gb ρ1 = _ := e2
  rw [e2]
  intro v2 H2 R2 x2
  have x1' : Rp K (FM f Δ σ true fr) H2 v d := by
    cases R2.gh _ List.mem_cons_self with
    | cons h _ => exact h
  have q : PoX K f Δ σ (.v true true) (bnd (h d d2) fun z => .ok (z, ρ2)) Q := q
  refine ho H2 v v2 d d2 Q (x1'.weak fun _ _ => trivial) (x2.weak fun _ _ => trivial) ?_
  rcases hs d d2 with ⟨z, ez, sz⟩ | ez
  · rw [ez] at q ⊢
    exact ⟨sz, fun w x => q w H2 R2.dropG (x.scl_any sz)⟩
  · rw [ez] at q
    exact q.elim
theorem sxa_nil : SXA K Δ tNil true true xNil := fun f ρ σ H Q r q => q [] H r .nil
theorem sxa_cons (ha : SX K Δ ta (.v true fr) ga) (hr : SXA K Δ tA true fr' gA) : SXA K Δ (tCons ta tA) true (fr && fr') (xCons ga gA) := fun f ρ σ H Q R q => by
  refine ha f ρ σ H _ R ?_
  unfold xCons at q
  obtain ⟨⟨d, ρ1⟩, e1, q⟩ := bnd_inv' (P := fun o => PoXA K f Δ σ true (fr && fr') o Q) id (fun _ => id) q
  rw [e1]
  intro v H1 R1 x1
  have R1' := R1.addG (fr := fr) (.cons x1 .nil)
  refine hr _ ρ1 σ H1 _ R1' ?_
  obtain ⟨⟨ds, ρ2⟩, e2, q⟩ := bnd_inv' (P := fun o => PoXA K f Δ σ true (fr && fr') o Q) id (fun _ => id) q
  have e2 : gA ρ1 = _ := e2
  rw [e2]
  intro vs H2 R2 x2
  have x1' : Rp K (FM f Δ σ true fr) H2 v d := by
    cases R2.gh _ List.mem_cons_self with
    | cons h _ => exact h
  exact q (v :: vs) H2 R2.dropG (.cons (x1'.fm id fun h => (Bool.and_eq_true_iff.mp h).1) (x2.weak fun _ y => y.weak id fun h => (Bool.and_eq_true_iff.mp h).2))
theorem SXA.wk (h : SXA K Δ tA av fr gA) (h1 : av' = true → av = true := by decide) (h2 : fr' = true → fr = true := by decide) : SXA K Δ tA av' fr' gA := fun f ρ σ H Q r q => h f ρ σ H Q r <| by
  cases e : gA ρ with
  | bad => rw [e] at q; exact q.elim
  | ex z => rw [e] at q; exact q.elim
  | ok d => rw [e] at q; exact fun v H' s x => q v H' s (x.weak fun _ y => y.weak h1 h2)
theorem sx_cb {r : List V → Hp → VK → Prop} {h : List Dt → O Dt} (hs : SclA h) (ho : CSc K r h) (ha : SXA K Δ tA av fr gA) : SX K Δ (tCB r tA) (.v true true) (xCB h gA) := fun f ρ σ H Q R q => by
  refine ha f ρ σ H _ R ?_
  unfold xCB at q
  obtain ⟨⟨ds, ρ1⟩, e1, q⟩ := bnd_inv' (P := fun o => PoX K f Δ σ (.v true true) o Q) id (fun _ => id) q
  rw [e1]
  intro vs H1 R1 x1
  have q : PoX K f Δ σ (.v true true) (bnd (h ds) fun z => .ok (z, ρ1)) Q := q
  refine ho H1 vs ds Q (x1.weak fun _ _ => trivial) ?_
  rcases hs ds with ⟨z, ez, sz⟩ | ez
  · rw [ez] at q ⊢
    exact ⟨sz, fun w x => q w H1 R1 (x.scl_any sz)⟩
  · rw [ez] at q
    exact q.elim
theorem sx_tup (ha : SXA K Δ tA av fr gA) : SX K Δ (tTup tA) (.v av fr) (xTup gA) := fun f ρ σ H Q R q => by
  refine ha f ρ σ H _ R ?_
  unfold xTup at q
  obtain ⟨⟨ds, ρ1⟩, e1, q⟩ := bnd_inv' (P := fun o => PoX K f Δ σ (.v av fr) o Q) id (fun _ => id) q
  rw [e1]
  intro vs H1 R1 x1
  simp only at q
  by_cases l : ds.length ≤ 100000
  · rw [if_pos l] at q
    exact ⟨by rw [x1.length]; exact sz_le l, fun p np => q _ _ (R1.mono (same_upd np)) (.tup (.inl (.inl upd_same)) (x1.same (same_upd np)))⟩
  · rw [if_neg l] at q
    exact q.elim
theorem sx_lst (ha : SXA K Δ tA true fr gA) : SX K Δ (tLst tA) (.new .l fr) (xLst gA) := fun f ρ σ H Q R q => by
  refine ha f ρ σ H _ R ?_
  unfold xLst at q
  obtain ⟨⟨ds, ρ1⟩, e1, q⟩ := bnd_inv' (P := fun o => PoX K f Δ σ (.new .l fr) o Q) id (fun _ => id) q
  rw [e1]
  intro vs H1 R1 x1
  simp only at q
  by_cases l : ds.length ≤ 100000
  · rw [if_pos l] at q
    refine ⟨by rw [x1.length]; exact sz_le l, fun p np => ?_⟩
    obtain ⟨f1, f2, f3⟩ := R1.fresh np
    exact q p _ (R1.pinNew np (same_upd np) ⟨_, upd_same, trivial⟩) f2 f3 ⟨vs, ds, rfl, upd_same, x1.mono (same_upd np) fun a fa na => ⟨fun _ => ⟨(fa.1 rfl).1, fun z => by
      rcases List.mem_cons.mp z with e | h
      · exact na (e ▸ np)
      · exact (fa.1 rfl).2 h⟩, fa.2⟩⟩
  · rw [if_neg l] at q
    exact q.elim

/-! ### subscripts -/
theorem rix_of {F : Addr → Prop} {H : Hp} {v v2 : V} {d d2 z : Dt} {Q : VK} (x : Rp K F H v d) (x2 : Rp K (fun _ => True) H v2 d2) (h : hIx d d2 = .ok z) (q : ∀ w, Rp K F H w z → Q w H) : rIx K v v2 H Q := by
  unfold hIx at h
  split at h
  · split at h
    · rename_i z hz
      cases h
      obtain ⟨a, xs, rfl, hs, r⟩ := x.sql
      obtain ⟨w, hw, rw'⟩ := r.ixN hz
      rw [rpInt x2]
      exact .inl ⟨a, xs, _, w, rfl, rfl, hs, hw, q w rw'⟩
    · cases h
  · split at h
    · rename_i z hz
      cases h
      obtain ⟨a, xs, rfl, hs, r⟩ := x.sqt
      obtain ⟨w, hw, rw'⟩ := r.ixN hz
      rw [rpInt x2]
      exact .inr (.inl ⟨a, xs, _, w, rfl, rfl, hs, hw, q w rw'⟩)
    · cases h
  · split at h
    · rename_i hl
      split at h
      · rename_i c hc
        cases h
        rw [rpInt x2]
        cases x
        exact .inr (.inr ⟨_, _, c, rfl, rfl, sz_le hl, hc, q _ (.str _)⟩)
      · cases h
    · cases h
  · cases h
theorem sx_ix (ha : SX K Δ ta (.v true fr) ga) (hb : SX K Δ tb (.v av' fr') gb) : SX K Δ (tOp (rIx K) ta tb) (.v true fr) (xOp hIx ga gb) := fun f ρ σ H Q R q => by
  refine ha f ρ σ H _ R ?_
  unfold xOp at q
  obtain ⟨⟨d, ρ1⟩, e1, q⟩ := bnd_inv' (P := fun o => PoX K f Δ σ (.v true fr) o Q) id (fun _ => id) q
  rw [e1]
  intro v H1 R1 x1
  have R1' := R1.addG (fr := fr) (.cons x1 .nil)
  refine hb _ ρ1 σ H1 _ R1' ?_
  obtain ⟨⟨d2, ρ2⟩, e2, q⟩ := bnd_inv' (P := fun o => PoX K f Δ σ (.v true fr) o Q) id (fun _ => id) q
  have e2 : gb ρ1 = _ := e2
  rw [e2]
  intro v2 H2 R2 x2
  have x1' : Rp K (FM f Δ σ true fr) H2 v d := by
    cases R2.gh _ List.mem_cons_self with
    | cons h _ => exact h
  obtain ⟨z, ez, q⟩ := bnd_inv' (P := fun o => PoX K f Δ σ (.v true fr) o Q) id (fun _ => id) q
  exact rix_of x1' (x2.weak fun _ _ => trivial) ez fun w y => q w H2 R2.dropG y
/-- a subscript of a list of one's own -/
theorem sx_ixO (hk : Δ[i]? = some (.own .l fr)) (hb : SX K Δ tb (.v av' fr') gb) : SX K Δ (tOp (rIx K) (tVar i) tb) (.v true fr) (xIxO i gb) := fun f ρ σ H Q R q => by
  obtain ⟨p, d0, h1, _, _, _⟩ := R.ow i .l fr hk
  refine ⟨_, h1, hb f ρ σ H _ R ?_⟩
  unfold xIxO at q
  obtain ⟨⟨d2, ρ2⟩, e2, q⟩ := bnd_inv' (P := fun o => PoX K f Δ σ (.v true fr) o Q) id (fun _ => id) q
  rw [e2]
  intro v2 H2 R2 x2
  obtain ⟨p', d, h1', h2, h3, vs, ds, ed, h4, h5⟩ := R2.ow i .l fr hk
  rw [h1] at h1'
  cases h1'
  subst ed
  simp only [h2] at q
  obtain ⟨z, ez, q2⟩ := bnd_inv' (P := fun o => PoX K f Δ σ (.v true fr) o Q) id (fun _ => id) q
  clear q
  unfold hIx at ez
  cases d2 with
  | int i' =>
    simp only at ez
    cases ea : L2.atI ds i' with
    | none => rw [ea] at ez; cases ez
    | some z' =>
      rw [ea] at ez
      cases ez
      obtain ⟨w, hw, rw'⟩ := h5.ixN ea
      rw [rpInt x2]
      exact .inl ⟨p, vs, _, w, rfl, rfl, .inl (.inl h4), hw, q2 w H2 R2 rw'⟩
  | _ => cases ez

/-! ### tests -/
theorem sxt_test (ha : SX K Δ te (.v av fr) gx) : SXT K Δ (tTest te) (xTest gx) := fun f ρ σ H Q R q => by
  refine ha f ρ σ H _ R ?_
  unfold xTest at q
  obtain ⟨⟨d, ρ1⟩, e1, q⟩ := bnd_inv' (P := fun o => PoXT K f Δ σ o Q) id (fun _ => id) q
  rw [e1]
  intro v H1 R1 x1
  obtain ⟨b, eb, q⟩ := bnd_inv' (P := fun o => PoXT K f Δ σ o Q) id (fun _ => id) q
  cases d with
  | bool b' =>
    cases eb
    cases x1
    exact ⟨b, rfl, q H1 R1⟩
  | _ => cases eb
theorem sxt_not (h : SXT K Δ tt gt) : SXT K Δ (tNot tt) (xNot gt) := fun f ρ σ H Q R q => by
  refine h f ρ σ H _ R ?_
  unfold xNot at q
  obtain ⟨⟨b, ρ1⟩, e1, q⟩ := bnd_inv' (P := fun o => PoXT K f Δ σ o Q) id (fun _ => id) q
  rw [e1]
  exact q
theorem sxt_and (h : SXT K Δ tt gt) (h2 : SXT K Δ tu gu) : SXT K Δ (tAnd tt tu) (xAnd gt gu) := fun f ρ σ H Q R q => by
  refine h f ρ σ H _ R ?_
  unfold xAnd at q
  obtain ⟨⟨b, ρ1⟩, e1, q⟩ := bnd_inv' (P := fun o => PoXT K f Δ σ o Q) id (fun _ => id) q
  rw [e1]
  intro H1 R1
  cases b with
  | false => exact q H1 R1
  | true => exact h2 f ρ1 σ H1 Q R1 q
theorem sxt_or (h : SXT K Δ tt gt) (h2 : SXT K Δ tu gu) : SXT K Δ (tOr tt tu) (xOr gt gu) := fun f ρ σ H Q R q => by
  refine h f ρ σ H _ R ?_
  unfold xOr at q
  obtain ⟨⟨b, ρ1⟩, e1, q⟩ := bnd_inv' (P := fun o => PoXT K f Δ σ o Q) id (fun _ => id) q
  rw [e1]
  intro H1 R1
  cases b with
  | true => exact q H1 R1
  | false => exact h2 f ρ1 σ H1 Q R1 q

/-! ### calls -/
theorem sx_callN {mg : Str → Option Value} {n : Nat} {g : List Dt → O Dt} (h : SXA K Δ tA av fr gA) : SX K Δ (tCall (spG K mg n g) [] E0 tA) (.v true true) (xCallN n g gA) := fun f ρ σ H Q r q => h f ρ σ H _ r <| by
  unfold xCallN at q
  obtain ⟨⟨ds, ρ1⟩, e1, q⟩ := bnd_inv' (P := fun o => PoX K f Δ σ (.v true true) o Q) id (fun _ => id) q
  rw [e1]
  intro vs H1 r1 x1
  simp only at q
  by_cases hn : ds.length = n
  · rw [if_pos hn] at q
    rw [List.append_nil]
    refine ⟨ds, by rw [x1.length]; exact hn, x1.weak fun _ _ => trivial, ?_⟩
    cases e2 : g ds with
    | bad => rw [e2] at q; exact q.elim
    | ex z => rw [e2] at q; exact q.elim
    | ok d =>
      rw [e2] at q
      intro v H2 s2 x2
      refine q v H2 (r1.mono s2) (x2.weak fun a na => ?_)
      obtain ⟨f1, f2, f3⟩ := r1.fresh na
      exact ⟨fun _ => ⟨f1, f2⟩, fun _ => r1.g0 a f3⟩
  · rw [if_neg hn] at q
    exact q.elim
theorem sx_callL {mg : Str → Option Value} {n : Nat} {g : List Dt → O Dt} (h : SXA K Δ tA av fr gA) : SX K Δ (tCall (spL K mg n g) [] E0 tA) (.new .l true) (xCallN n g gA) := fun f ρ σ H Q r q => h f ρ σ H _ r <| by
  unfold xCallN at q
  obtain ⟨⟨ds, ρ1⟩, e1, q⟩ := bnd_inv' (P := fun o => PoX K f Δ σ (.new .l true) o Q) id (fun _ => id) q
  rw [e1]
  intro vs H1 r1 x1
  simp only at q
  by_cases hn : ds.length = n
  · rw [if_pos hn] at q
    rw [List.append_nil]
    refine ⟨ds, by rw [x1.length]; exact hn, x1.weak fun _ _ => trivial, ?_⟩
    cases e2 : g ds with
    | bad => rw [e2] at q; exact q.elim
    | ex z => rw [e2] at q; exact q.elim
    | ok d =>
      rw [e2] at q
      intro p H2 np s2 x2
      obtain ⟨f1, f2, f3⟩ := r1.fresh np
      refine q p H2 (r1.pinNew np s2 x2.mutb) f2 f3 (x2.map (fun _ e => e) fun _ _ y => y.weak fun a na => ?_)
      obtain ⟨g1, g2, g3⟩ := r1.fresh na.1
      exact ⟨fun _ => ⟨g1, fun z => by
        rcases List.mem_cons.mp z with z | z
        · exact na.2 z
        · exact g2 z⟩, fun _ => r1.g0 a g3⟩
  · rw [if_neg hn] at q
    exact q.elim
theorem sx_callA {mg : Str → Option Value} {n : Nat} {g : List Dt → O Dt} (h : SXA K Δ tA av fr gA) : SX K Δ (tCall (spA K mg n g) [] E0 tA) (.v av fr) (xCallN n g gA) := fun f ρ σ H Q r q => h f ρ σ H _ r <| by
  unfold xCallN at q
  obtain ⟨⟨ds, ρ1⟩, e1, q⟩ := bnd_inv' (P := fun o => PoX K f Δ σ (.v av fr) o Q) id (fun _ => id) q
  rw [e1]
  intro vs H1 r1 x1
  simp only at q
  by_cases hn : ds.length = n
  · rw [if_pos hn] at q
    rw [List.append_nil]
    refine ⟨ds, _, by rw [x1.length]; exact hn, x1, ?_⟩
    cases e2 : g ds with
    | bad => rw [e2] at q; exact q.elim
    | ex z => rw [e2] at q; exact q.elim
    | ok d =>
      rw [e2] at q
      intro v H2 s2 x2
      refine q v H2 (r1.mono s2) (x2.weak fun a na => ?_)
      rcases na with na | na
      · exact na
      · obtain ⟨f1, f2, f3⟩ := r1.fresh na
        exact ⟨fun _ => ⟨f1, f2⟩, fun _ => r1.g0 a f3⟩
  · rw [if_neg hn] at q
    exact q.elim
/-- what stands at an argument's place, kind c -/
def argOf : Ct → Ct
  | .l => .la
  | .dk => .ka
  | c => c
/-- a def that changes its first argument; it tells a value of new things -/
def spM (K : PySem.W.Frag) (c : Ct) (n : Nat) (g : List Dt → O Dt) : Sp := fun vs H Q _ => ∃ a vs' d ds', vs = .ref a :: vs' ∧ vs.length = n ∧ argK c d = true ∧ ArgAt K H a d ∧ RpA K (fun b => b ≠ a) H vs' ds' ∧ (match g (d :: ds') with
  | .ok (.tuple [r, e]) => ∀ v H', (∀ b o, b ≠ a → H b = some o → H' b = some o) → ArgAt K H' a e → Rp K (fun b => H b = none) H' v r → Q v H'
  | _ => False)
/-- .. a new list -/
def spML (K : PySem.W.Frag) (c : Ct) (n : Nat) (g : List Dt → O Dt) : Sp := fun vs H Q _ => ∃ a vs' d ds', vs = .ref a :: vs' ∧ vs.length = n ∧ argK c d = true ∧ ArgAt K H a d ∧ RpA K (fun b => b ≠ a) H vs' ds' ∧ (match g (d :: ds') with
  | .ok (.tuple [r, e]) => ∀ p H', p ≠ a → H p = none → (∀ b o, b ≠ a → H b = some o → H' b = some o) → ArgAt K H' a e → OwC K .l (fun b => H b = none ∧ b ≠ p) H' p r → Q (.ref p) H'
  | _ => False)
theorem argAt_of {c c' : Ct} {F : Addr → Prop} {H : Hp} {p : Addr} {d : Dt} (hc : argOf c' = c) (h : OwC K c' F H p d) (ha : argK c d = true) : ArgAt K H p d := by
  subst hc
  cases c' with
  | l => obtain ⟨vs, ds, rfl, h1, h2⟩ := h; exact ⟨ha, vs, h1, sclA_any h2 ha⟩
  | la => obtain ⟨vs, ds, rfl, h1, h2⟩ := h; exact ⟨ha, vs, h1, sclA_any h2 ha⟩
  | dk => obtain ⟨vs, ds, rfl, h1, h2⟩ := h; exact ⟨ha, vs, h1, sclV_any h2 ha⟩
  | ka => obtain ⟨vs, ds, rfl, h1, h2⟩ := h; exact ⟨ha, vs, h1, sclV_any h2 ha⟩
  | dt => cases ha
theorem owC_of {c c' : Ct} {F : Addr → Prop} {H : Hp} {p : Addr} {d : Dt} (hc : argOf c' = c) (h : ArgAt K H p d) (ha : argK c d = true) : ∃ o, H p = some o ∧ Mutb o ∧ ∀ H2 : Hp, H2 p = some o → OwC K c' F H2 p d := by
  subst hc
  cases c' with
  | l => cases d with
    | list es => obtain ⟨s, ws, h1, h2⟩ := h; exact ⟨_, h1, trivial, fun H2 e => ⟨ws, es, rfl, e, sclA_any h2 s⟩⟩
    | _ => cases ha
  | la => cases d with
    | list es => obtain ⟨s, ws, h1, h2⟩ := h; exact ⟨_, h1, trivial, fun H2 e => ⟨ws, es, rfl, e, sclA_any h2 s⟩⟩
    | _ => cases ha
  | dk => cases d with
    | dict es => obtain ⟨s, ws, h1, h2⟩ := h; exact ⟨_, h1, trivial, fun H2 e => ⟨ws, es, rfl, e, sclV_any h2 s⟩⟩
    | _ => cases ha
  | ka => cases d with
    | dict es => obtain ⟨s, ws, h1, h2⟩ := h; exact ⟨_, h1, trivial, fun H2 e => ⟨ws, es, rfl, e, sclV_any h2 s⟩⟩
    | _ => cases ha
  | dt => cases ha
/-- the state behind a call that changed slot i's own -/
theorem R.argNew {f : Fm} {ρ : List Dt} {σ : L2.St} {H H' : Hp} {c c' : Ct} {p : Addr} {e : Dt} (r : R K f Δ ρ σ H) (hk : Δ[i]? = some (.own c' fr)) (hs : σ[i]? = some (some (V.ref p))) (hc : argOf c' = c) (keep : ∀ b o, b ≠ p → H b = some o → H' b = some o) (h : ArgAt K H' p e) (ha : argK c e = true) :
    R K f Δ (ρ.set i e) σ H' := by
  obtain ⟨o, ho, mo, hw⟩ := owC_of (F := FM f Δ σ true fr) hc h ha
  have r1 := r.updOwn (o' := o) hk hs mo (fr' := fr) (c' := c') (hw _ upd_same) (fun h => h)
  have eΔ : Δ.set i (.own c' fr) = Δ := by
    apply List.ext_getElem?
    intro j
    by_cases z : i = j
    · subst z
      rw [List.getElem?_set_self (List.getElem?_eq_some_iff.mp hk).1, hk]
    · rw [List.getElem?_set_ne z]
  rw [eΔ] at r1
  refine r1.mono fun b u e => ?_
  by_cases z : b = p
  · subst z
    rw [upd_same] at e
    cases e
    exact ho
  · rw [upd_ne z] at e
    exact keep b u z e
/-! arguments that are not slot i's own: values, and other names' own lists -/
def PoB (K : PySem.W.Frag) (σ : L2.St) (i : Nat) (H : Hp) (o : O (List Dt)) (Q : List V → Hp → Prop) : Prop := match o with
  | .ok ds => ∀ vs H', Same H H' → RpA K (fun b => σ[i]? ≠ some (some (V.ref b))) H' vs ds → Q vs H'
  | _ => False
def SB (K : PySem.W.Frag) (Δ : List Kd) (i : Nat) (ta : TA) (g : List Dt → O (List Dt)) : Prop := ∀ f ρ σ H Q, R K f Δ ρ σ H → PoB K σ i H (g ρ) Q → ta σ H Q
def PoXB (K : PySem.W.Frag) (f : Fm) (Δ : List Kd) (σ : L2.St) (i : Nat) (o : O (List Dt × List Dt)) (Q : List V → Hp → Prop) : Prop := match o with
  | .ok (ds, ρ') => ∀ vs H', R K f Δ ρ' σ H' → RpA K (fun b => σ[i]? ≠ some (some (V.ref b))) H' vs ds → Q vs H'
  | _ => False
def SXB (K : PySem.W.Frag) (Δ : List Kd) (i : Nat) (ta : TA) (g : List Dt → O (List Dt × List Dt)) : Prop := ∀ f ρ σ H Q, R K f Δ ρ σ H → PoXB K f Δ σ i (g ρ) Q → ta σ H Q
theorem sb_nil : SB K Δ i tNil gNil := fun f ρ σ H Q R q => q [] H (Same.refl H) .nil
theorem sb_cons {ga : Gd} {gA : List Dt → O (List Dt)} {c' : Ct} (hk : Δ[i]? = some (.own c' fr')) (ha : SE K W0 Δ ta (.v true fr) ga) (hr : SB K Δ i tA gA) : SB K Δ i (tCons ta tA) (gCons ga gA) := fun f ρ σ H Q R q => by
  refine ha f ρ σ H _ R ?_
  unfold gCons at q
  obtain ⟨d, e1, q⟩ := bnd_inv' (P := fun o => PoB K σ i H o Q) id (fun _ => id) q
  rw [e1]
  intro v H1 s1 x1
  refine hr f ρ σ H1 _ (R.mono s1) ?_
  obtain ⟨ds, e2, q⟩ := bnd_inv' (P := fun o => PoB K σ i H o Q) id (fun _ => id) q
  rw [e2]
  intro vs H2 s2 x2
  exact q (v :: vs) H2 (s1.trans s2) (.cons ((x1.same s2).weak fun a fa z => (fa.1 rfl).1 ⟨i, c', fr', hk, z⟩) x2)
theorem sb_own {gA : List Dt → O (List Dt)} {c' : Ct} {j : Nat} (hj : Δ[j]? = some (.own .l fr)) (hk : Δ[i]? = some (.own c' fr')) (hij : i ≠ j) (hr : SB K Δ i tA gA) : SB K Δ i (tCons (tVar j) tA) (gCons (gVar j) gA) := fun f ρ σ H Q R q => by
  obtain ⟨p, d, h1, h2, h3, vs0, ds0, ed, h4, h5⟩ := R.ow j .l fr hj
  refine ⟨_, h1, ?_⟩
  unfold gCons gVar at q
  rw [h2, bnd_ok] at q
  refine hr f ρ σ H _ R ?_
  obtain ⟨ds, e2, q⟩ := bnd_inv' (P := fun o => PoB K σ i H o Q) id (fun _ => id) q
  rw [e2]
  intro vs H2 s2 x2
  subst ed
  refine q _ H2 s2 (.cons (.lst (s2 _ _ h4) (fun z => hij (R.inj i j _ _ _ _ p hk hj z h1)) ((h5.same s2).weak fun a fa z => (fa.1 rfl).1 ⟨i, c', fr', hk, z⟩)) x2)
theorem sxb_of {gA : List Dt → O (List Dt)} (h : SB K Δ i tA gA) : SXB K Δ i tA (xPA gA) := fun f ρ σ H Q r q => h f ρ σ H Q r <| by
  unfold xPA at q
  cases e : gA ρ with
  | bad => rw [e] at q; exact q.elim
  | ex z => rw [e] at q; exact q.elim
  | ok d => rw [e] at q; exact fun v H' s x => q v H' (r.mono s) x
theorem sxb_a {c' : Ct} (hk : Δ[i]? = some (.own c' fr')) (h : SXA K Δ tA true fr gA) : SXB K Δ i tA gA := fun f ρ σ H Q r q => h f ρ σ H Q r <| by
  cases e : gA ρ with
  | bad => rw [e] at q; exact q.elim
  | ex z => rw [e] at q; exact q.elim
  | ok d => rw [e] at q; exact fun v H' r' x => q v H' r' (x.weak fun a fa z => (fa.1 rfl).1 ⟨i, c', fr', hk, z⟩)
theorem sx_callM {c c' : Ct} {n : Nat} {g : List Dt → O Dt} (hk : Δ[i]? = some (.own c' fr')) (hc : argOf c' = c) (h : SXB K Δ i tA gA) : SX K Δ (tCall (spM K c n g) [] E0 (tCons (tVar i) tA)) (.v true true) (xCallM c n g i gA) := fun f ρ σ H Q r q => by
  obtain ⟨p, d0, h1, _, _, _⟩ := r.ow i c' fr' hk
  refine ⟨_, h1, h f ρ σ H _ r ?_⟩
  unfold xCallM at q
  obtain ⟨⟨ds, ρ1⟩, e1, q⟩ := bnd_inv' (P := fun o => PoX K f Δ σ (.v true true) o Q) id (fun _ => id) q
  rw [e1]
  intro vs H1 r1 x1
  obtain ⟨p', d, h1', h2, h3, h4⟩ := r1.ow i c' fr' hk
  rw [h1] at h1'
  cases h1'
  simp only at q
  by_cases hn : ds.length + 1 = n
  · rw [if_pos hn, h2] at q
    simp only at q
    by_cases ha : argK c d = true
    · rw [if_pos ha] at q
      rw [List.append_nil]
      refine ⟨p, vs, d, ds, rfl, by rw [List.length_cons, x1.length]; exact hn, ha, argAt_of hc h4 ha, x1.weak fun b fb z => fb (z ▸ h1), ?_⟩
      cases e2 : g (d :: ds) with
      | bad => rw [e2] at q; exact q.elim
      | ex z => rw [e2] at q; exact q.elim
      | ok z =>
        rw [e2] at q
        split at q
        · rename_i r' e ez
          cases ez
          by_cases hae : argK c e = true
          · rw [if_pos hae] at q
            intro v H' keep arg x2
            refine q v H' (r1.argNew hk h1 hc keep arg hae) (x2.weak fun b nb => ?_)
            obtain ⟨f1, f2, f3⟩ := r1.fresh nb
            exact ⟨fun _ => ⟨f1, f2⟩, fun _ => r1.g0 b f3⟩
          · rw [if_neg hae] at q
            exact q.elim
        · exact q.elim
    · rw [if_neg ha] at q
      exact q.elim
  · rw [if_neg hn] at q
    exact q.elim
theorem sx_callML {c c' : Ct} {n : Nat} {g : List Dt → O Dt} (hk : Δ[i]? = some (.own c' fr')) (hc : argOf c' = c) (h : SXB K Δ i tA gA) : SX K Δ (tCall (spML K c n g) [] E0 (tCons (tVar i) tA)) (.new .l true) (xCallM c n g i gA) := fun f ρ σ H Q r q => by
  obtain ⟨p, d0, h1, _, _, _⟩ := r.ow i c' fr' hk
  refine ⟨_, h1, h f ρ σ H _ r ?_⟩
  unfold xCallM at q
  obtain ⟨⟨ds, ρ1⟩, e1, q⟩ := bnd_inv' (P := fun o => PoX K f Δ σ (.new .l true) o Q) id (fun _ => id) q
  rw [e1]
  intro vs H1 r1 x1
  obtain ⟨p', d, h1', h2, h3, h4⟩ := r1.ow i c' fr' hk
  rw [h1] at h1'
  cases h1'
  simp only at q
  by_cases hn : ds.length + 1 = n
  · rw [if_pos hn, h2] at q
    simp only at q
    by_cases ha : argK c d = true
    · rw [if_pos ha] at q
      rw [List.append_nil]
      refine ⟨p, vs, d, ds, rfl, by rw [List.length_cons, x1.length]; exact hn, ha, argAt_of hc h4 ha, x1.weak fun b fb z => fb (z ▸ h1), ?_⟩
      cases e2 : g (d :: ds) with
      | bad => rw [e2] at q; exact q.elim
      | ex z => rw [e2] at q; exact q.elim
      | ok z =>
        rw [e2] at q
        split at q
        · rename_i r' e ez
          cases ez
          by_cases hae : argK c e = true
          · rw [if_pos hae] at q
            intro l H' nla nl keep arg x2
            obtain ⟨f1, f2, f3⟩ := r1.fresh nl
            -- the state without the new list, then with it
            obtain ⟨o, ho, mo, hw⟩ := owC_of (F := FM f Δ σ true fr') hc arg hae
            have nlp : l ≠ p := nla
            have r2 : R K f Δ (ρ1.set i e) σ (upd H1 p o) := r1.argNew hk h1 hc (fun b u nb eb => by rw [upd_ne nb]; exact eb) (by
              cases e with
              | list es => obtain ⟨s, ws, w1, w2⟩ := arg; rw [ho] at w1; cases w1; exact ⟨s, ws, upd_same, sclA_any w2 s⟩
              | dict es => obtain ⟨s, ws, w1, w2⟩ := arg; rw [ho] at w1; cases w1; exact ⟨s, ws, upd_same, sclV_any w2 s⟩
              | _ => exact arg.elim) hae
            have s2 : Same (upd H1 p o) H' := fun b u eb => by
              by_cases z : b = p
              · subst z
                rw [upd_same] at eb
                cases eb
                exact ho
              · rw [upd_ne z] at eb
                exact keep b u z eb
            refine q l H' (r2.pinNew (by rw [upd_ne nlp]; exact nl) s2 x2.mutb) f2 f3 (x2.map (fun _ e => e) fun _ _ y => y.weak fun b nb => ?_)
            obtain ⟨g1, g2, g3⟩ := r1.fresh nb.1
            exact ⟨fun _ => ⟨g1, fun z => by
              rcases List.mem_cons.mp z with z | z
              · exact nb.2 z
              · exact g2 z⟩, fun _ => r1.g0 b g3⟩
          · rw [if_neg hae] at q
            exact q.elim
        · exact q.elim
    · rw [if_neg ha] at q
      exact q.elim
  · rw [if_neg hn] at q
    exact q.elim

/-! ### statements -/
theorem bx_inv {α β : Type} {x : O α} {k : α → O β} {P : O β → Prop} (hb : ¬ P .bad) (h : P (bx x k)) : ∃ a, x = .ok a ∧ P (k a) := by
  cases x with
  | bad => exact (hb h).elim
  | ex e => exact (hb h).elim
  | ok a => exact ⟨a, rfl, h⟩
theorem s_setX (hi : i < Δ.length) (h : SX K Δ te (.v true fr) gx) : SS K W L Δ (Δ.set i (.im fr)) Δb Δc (tAsg te (gName i)) (xSet i gx) := fun f ρ σ H E r q => h f ρ σ H _ r <| by
  obtain ⟨⟨d, ρ1⟩, e1, q⟩ := bx_inv (P := fun o => PoS K W L f _ Δb Δc o E) id q
  rw [e1]
  exact fun v H' r' x => q _ H' (r'.setIm hi x)
theorem s_setOX {c : Ct} (hi : i < Δ.length) (h : SX K Δ te (.new c fr) gx) (hc : isArg c = false := by rfl) : SS K W L Δ (Δ.set i (.own c fr)) Δb Δc (tAsg te (gName i)) (xSet i gx) := fun f ρ σ H E r q => h f ρ σ H _ r <| by
  obtain ⟨⟨d, ρ1⟩, e1, q⟩ := bx_inv (P := fun o => PoS K W L f _ Δb Δc o E) id q
  rw [e1]
  exact fun p H' r' hP h0 x => q _ H' (r'.setOwnP hi h0 hP x hc)
theorem s_asgX {gg : TG} {sl : List Nat} {n : Nat} {hh : Dt → List Dt → O (List Dt)} {TK : Bool → List Kd → List Kd} (hn : Δ.length = n) (h : SX K Δ te (.v true fr) gx) (hg : GJ K n gg sl hh TK) : SS K W L Δ (TK fr Δ) Δb Δc (tAsg te gg) (xAsg gx hh) := fun f ρ σ H E r q => h f ρ σ H _ r <| by
  obtain ⟨⟨d, ρ1⟩, e1, q⟩ := bx_inv (P := fun o => PoS K W L f _ Δb Δc o E) id q
  rw [e1]
  intro v H' r' x
  refine hg f Δ ρ1 σ H' v d fr _ hn r' x ?_
  simp only at q
  cases e2 : hh d ρ1 with
  | bad => rw [e2] at q; exact q.elim
  | ex z => rw [e2] at q; exact q.elim
  | ok ρ' =>
    rw [e2] at q
    exact fun σ' t => q σ' H' t.r
theorem s_dropX (h : SX K Δ te (.v av fr) gx) : SS K W L Δ Δ Δb Δc (tDrop te) (xDrop gx) := fun f ρ σ H E r q => h f ρ σ H _ r <| by
  obtain ⟨⟨d, ρ1⟩, e1, q⟩ := bx_inv (P := fun o => PoS K W L f _ Δb Δc o E) id q
  rw [e1]
  exact fun v H' r' x => q σ H' r'
theorem s_ifX (h : SXT K Δ tt gt) (h1 : SS K W L Δ Δn Δb Δc t g1) (h2 : SS K W L Δ Δn Δb Δc u g2) : SS K W L Δ Δn Δb Δc (tIfS tt t u) (xIfS gt g1 g2) := fun f ρ σ H E r q => h f ρ σ H _ r <| by
  obtain ⟨⟨b, ρ1⟩, e1, q⟩ := bx_inv (P := fun o => PoS K W L f _ Δb Δc o E) id q
  rw [e1]
  intro H1 r1
  cases b with
  | true => exact h1 f ρ1 σ H1 E r1 q
  | false => exact h2 f ρ1 σ H1 E r1 q
theorem s_retX (h : SX K Δ te (.v av true) gx) : SS K W .n Δ Δn Δb Δc (tRet te) (xRet gx) := fun f ρ σ H E r q => h f ρ σ H _ r <| by
  obtain ⟨⟨d, ρ1⟩, e1, q⟩ := bx_inv (P := fun o => PoS K W .n f _ Δb Δc o E) id q
  rw [e1]
  exact fun v H' r' x => q v H' r'.ext (x.weak fun a fa => fa.2 rfl)
theorem argAt_ow {c : Ct} {F : Addr → Prop} {H : Hp} {p : Addr} {e : Dt} (hc : isArg c = true) (h : OwC K c F H p e) (ha : argD e = true) : ArgAt K H p e := by
  cases c with
  | la => obtain ⟨vs, ds, rfl, h1, h2⟩ := h; exact ⟨ha, vs, h1, sclA_any h2 ha⟩
  | ka => obtain ⟨vs, ds, rfl, h1, h2⟩ := h; exact ⟨ha, vs, h1, sclV_any h2 ha⟩
  | _ => cases hc
theorem s_retM {c : Ct} {fr0 : Bool} (hk : Δ[0]? = some (.own c fr0)) (hc : isArg c = true) (h : SX K Δ te (.v true true) gx) : SS K W .m Δ Δn Δb Δc (tRet te) (xRetM gx) := fun f ρ σ H E r q => h f ρ σ H _ r <| by
  obtain ⟨⟨d, ρ1⟩, e1, q⟩ := bx_inv (P := fun o => PoS K W .m f _ Δb Δc o E) id q
  rw [e1]
  intro v H' r' x
  obtain ⟨p, hA, hs⟩ := r'.ar 0 c fr0 hk hc
  obtain ⟨p', e, hs', h2, h3, h4⟩ := r'.ow 0 c fr0 hk
  rw [hs] at hs'
  cases hs'
  simp only [h2] at q
  by_cases ha : argD e = true
  · rw [if_pos ha] at q
    unfold PoS at q
    simp only [hA] at q
    refine q v H' r'.ext ?_ (x.weak fun a fa => ⟨fa.2 rfl, fun z => (fa.1 rfl).1 (z ▸ ⟨0, c, fr0, hk, hs⟩)⟩)
    exact argAt_ow hc h4 ha
  · rw [if_neg ha] at q
    exact q.elim
theorem s_retML {c : Ct} {fr0 : Bool} (hk : Δ[0]? = some (.own c fr0)) (hc : isArg c = true) (h : SX K Δ te (.new .l true) gx) : SS K W .ml Δ Δn Δb Δc (tRet te) (xRetM gx) := fun f ρ σ H E r q => h f ρ σ H _ r <| by
  obtain ⟨⟨d, ρ1⟩, e1, q⟩ := bx_inv (P := fun o => PoS K W .ml f _ Δb Δc o E) id q
  rw [e1]
  intro l H' r' hP h0 x
  obtain ⟨p, hA, hs⟩ := r'.ar 0 c fr0 hk hc
  obtain ⟨p', e, hs', h2, h3, h4⟩ := r'.ow 0 c fr0 hk
  rw [hs] at hs'
  cases hs'
  have no := (r'.pin l List.mem_cons_self).2
  simp only [h2] at q
  by_cases ha : argD e = true
  · rw [if_pos ha] at q
    unfold PoS at q
    have hA' : f.A = some p := hA
    simp only [hA'] at q
    refine q l H' (fun z => no (z ▸ ⟨0, c, fr0, hk, hs⟩)) h0 r'.ext ?_ (x.map (fun _ e => e) fun _ _ y => y.weak fun a fa => ⟨⟨fa.2 rfl, fun z => (fa.1 rfl).1 (z ▸ ⟨0, c, fr0, hk, hs⟩)⟩, fun z => (fa.1 rfl).2 (z ▸ List.mem_cons_self)⟩)
    exact argAt_ow hc h4 ha
  · rw [if_neg ha] at q
    exact q.elim
/-- return of an owned name -/
def xRetMO (i : Nat) : Gs := fun ρ => match ρ[i]?, ρ[0]? with
  | some d, some e => if argD e then .ok (.rt (.tuple [d, e])) else .bad
  | _, _ => .bad
theorem s_retMO {c : Ct} {fr0 : Bool} (hk : Δ[0]? = some (.own c fr0)) (hc : isArg c = true) (hi : Δ[i]? = some (.own .l true)) : SS K W .ml Δ Δn Δb Δc (tRet (tVar i)) (xRetMO i) := fun f ρ σ H E r q => by
  obtain ⟨p, hA, hs⟩ := r.ar 0 c fr0 hk hc
  obtain ⟨p', e, hs', h2, h3, h4⟩ := r.ow 0 c fr0 hk
  rw [hs] at hs'
  cases hs'
  obtain ⟨l, d, g1, g2, g3, g4⟩ := r.ow i .l true hi
  have n0 : i ≠ 0 := fun z => by
    subst z
    rw [hk] at hi
    cases hi
    cases hc
  have nl : l ≠ p := fun z => n0 (r.inj i 0 _ _ _ _ p hi hk (z ▸ g1) hs)
  unfold xRetMO at q
  simp only [g2, h2] at q
  by_cases ha : argD e = true
  · rw [if_pos ha] at q
    unfold PoS at q
    simp only [hA] at q
    refine ⟨_, g1, q l H nl g3 r.ext ?_ (g4.map (fun _ e => e) fun _ _ y => y.weak fun a fa => ⟨⟨fa.2 rfl, fun z => (fa.1 rfl).1 (z ▸ ⟨0, c, fr0, hk, hs⟩)⟩, fun z => (fa.1 rfl).1 (z ▸ ⟨i, .l, true, hi, g1⟩)⟩)⟩
    exact argAt_ow hc h4 ha
  · rw [if_neg ha] at q
    exact q.elim
theorem s_appX (hk : Δ[i]? = some (.own .l fr)) (h : SX K Δ te (.v true fr') gx) : SS K W L Δ (Δ.set i (.own .l (fr && fr'))) Δb Δc (tDrop (tBM K "list" rAppend (tVar i) (tCons te tNil))) (xApp i gx) := fun f ρ σ H E r q => by
  obtain ⟨p, d0, h1, h2, h3, vs, ds, ed, h4, h5⟩ := r.ow i .l fr hk
  refine ⟨_, h1, .inl ⟨rfl, _, .inl (.inl h4)⟩, h f ρ σ H _ r ?_⟩
  obtain ⟨⟨d, ρ1⟩, e1, q⟩ := bx_inv (P := fun o => PoS K W L f _ Δb Δc o E) id q
  rw [e1]
  intro v H1 r1 x
  obtain ⟨p', d0', h1', h2', h3', vs', ds', ed', h4', h5'⟩ := r1.ow i .l fr hk
  rw [h1] at h1'
  cases h1'
  subst ed'
  simp only [h2'] at q
  by_cases hl : ds'.length < 100000
  · rw [if_pos hl] at q
    have hl2 : vs'.length < sizeLine := by rw [h5'.length]; exact Nat.lt_of_lt_of_le hl (by decide)
    refine ⟨p, vs', v, rfl, rfl, h4', hl2, q σ _ ?_⟩
    refine r1.updOwn hk h1 (c' := .l) (show Mutb (.lst _) from trivial) ⟨_, _, rfl, upd_same, ?_⟩
    have nf : ∀ {fr : Bool} (a : Addr), FM f Δ σ true fr a → a ≠ p := fun a fa z => (fa.1 rfl).1 (z ▸ ⟨i, .l, _, hk, h1⟩)
    exact ((h5'.updM h4' trivial fun a fa => nf a fa).weak fun a y => y.weak id fun h => (Bool.and_eq_true_iff.mp h).1).append
      (.cons ((Rp.updM h4' trivial (fun a fa => nf a fa) x).weak fun a y => y.weak id fun h => (Bool.and_eq_true_iff.mp h).2) .nil)
  · rw [if_neg hl] at q
    exact q.elim
end
end Sim
end T_SimM

section T_SimN
set_option Elab.async false
set_option linter.all false
set_option maxRecDepth 100000
/-! SimN: walks, comprehensions, pop, defs of the effectful layer; the rules for a text. -/
namespace Sim
open PySem PySem.Spec L2
open PyProof.Rows hiding St

def xRng1 (g : List Dt → O (List Dt × List Dt)) : List Dt → O (List Dt × List Dt) := fun ρ => bx (g ρ) fun x => match rng1 x.1 with
  | some (lo, hi) => .ok (rangeD lo hi, x.2)
  | none => .bad
def clr : List Nat → List Dt → List Dt
  | [], ρ => ρ
  | v :: vs, ρ => (clr vs ρ).set v .none
def lcX (vs : List Nat) (h : Dt → List Dt → O (List Dt)) (gt : List Dt → O Bool) (ge : Gx) : List Dt → List Dt → O (List Dt × List Dt)
  | [], ρ => .ok ([], ρ)
  | d :: ds, ρ => bx (h d ρ) fun ρ' => bx (gt ρ') fun b => if b then bx (ge ρ') fun y => bx (lcX vs h gt ge ds (clr vs y.2)) fun z => .ok (y.1 :: z.1, z.2) else lcX vs h gt ge ds ρ
def xLc (vs : List Nat) (gi : List Dt → O (List Dt)) (h : Dt → List Dt → O (List Dt)) (gt : List Dt → O Bool) (ge : Gx) : Gx := fun ρ => bx (gi ρ) fun ds => if ds.length ≤ 100000 then bx (lcX vs h gt ge ds ρ) fun x => .ok (.list x.1, x.2) else .bad
def xPop (i : Nat) (g : Gx) : Gx := fun ρ => bx (g ρ) fun x => match x.1, x.2[i]? with
  | .int k, some (.list ds) => if -(2 ^ 63) ≤ k ∧ k < 2 ^ 63 then (match seqIndex? k ds.length with
    | some j => (match ds[j]? with
      | some d => .ok (d, x.2.set i (.list (ds.eraseIdx j)))
      | none => .bad)
    | none => .bad) else .bad
  | _, _ => .bad

theorem clr_len (ρ : List Dt) : ∀ vs, (clr vs ρ).length = ρ.length
  | [] => rfl
  | v :: vs => by unfold clr; rw [List.length_set, clr_len ρ vs]
theorem clr_out {ρ : List Dt} {i : Nat} : ∀ {vs : List Nat}, i ∉ vs → (clr vs ρ)[i]? = ρ[i]?
  | [], _ => rfl
  | v :: vs, h => by
    unfold clr
    rw [List.getElem?_set_ne (fun e => h (by rw [e]; exact List.mem_cons_self)), clr_out fun z => h (List.mem_cons_of_mem _ z)]
section
variable {K : PySem.W.Frag} {f : Fm} {Δ : List Kd} {ρ ρ' : List Dt} {σ σ' : L2.St} {H H' : Hp} {p : Addr} {d : Dt} {i : Nat}
theorem R.reno {vs : List Nat} (r : R K f Δ ρ σ H) (hv : ∀ i ∈ vs, ∀ k, Δ[i]? = some k → k = .no) (lσ : σ'.length = σ.length) (lρ : ρ'.length = ρ.length) (eσ : ∀ i, i ∉ vs → σ'[i]? = σ[i]?) (eρ : ∀ i, i ∉ vs → ρ'[i]? = ρ[i]?) : R K f Δ ρ' σ' H := by
  have out : ∀ {i : Nat} {k : Kd}, Δ[i]? = some k → k ≠ .no → i ∉ vs := fun {i k} h n z => n (hv i z k h)
  have ow' : ∀ a, Ow Δ σ' a → Ow Δ σ a := fun a ⟨i, c, fr, h1, h2⟩ => ⟨i, c, fr, h1, by rw [← eσ i (out h1 (fun z => nomatch z))]; exact h2⟩
  have key : ∀ {fr : Bool} {v : V} {d : Dt}, Rp K (FM f Δ σ true fr) H v d → Rp K (FM f Δ σ' true fr) H v d := fun h =>
    h.weak fun a fa => ⟨fun _ => ⟨fun z => (fa.1 rfl).1 (ow' a z), (fa.1 rfl).2⟩, fa.2⟩
  refine ⟨r.ext, r.g0, lσ.trans r.lσ, lρ.trans r.lρ, ?_, fun a ha => ⟨(r.pin a ha).1, fun z => (r.pin a ha).2 (ow' a z)⟩, fun g hg => (r.gh g hg).map fun _ _ x => key x, fun i fr h => ?_, fun i c fr h => ?_, fun i c fr h ha => ?_⟩
  · intro i j ci fi cj fj p h1 h2 h3 h4
    rw [eσ i (out h1 (fun z => nomatch z))] at h3
    rw [eσ j (out h2 (fun z => nomatch z))] at h4
    exact r.inj i j _ _ _ _ p h1 h2 h3 h4
  · obtain ⟨v, d, h1, h2, h3⟩ := r.im i fr h
    have z := out h (fun z => nomatch z)
    exact ⟨v, d, by rw [eσ i z]; exact h1, by rw [eρ i z]; exact h2, key h3⟩
  · obtain ⟨v, d, h1, h2, h3, h4⟩ := r.ow i c fr h
    have z := out h (fun z => nomatch z)
    exact ⟨v, d, by rw [eσ i z]; exact h1, by rw [eρ i z]; exact h2, h3, h4.map (fun o e => e) fun _ _ x => key x⟩
  · obtain ⟨p, h1, h2⟩ := r.ar i c fr h ha
    exact ⟨p, h1, by rw [eσ i (out h (fun z => nomatch z))]; exact h2⟩
/-- what stands at a pinned place stays -/
abbrev Fm.hold (f : Fm) (p : Addr) (o : HO) : Fm := { f with H0 := fun a => if a = p then some o else f.H0 a }
theorem R.hold {o : HO} (r : R K f Δ ρ σ H) (hp : H p = some o) (hP : p ∈ f.P) : R K (f.hold p o) Δ ρ σ H := by
  have no := (r.pin p hP).2
  refine ⟨fun b u e => ?_, fun a e => ?_, r.lσ, r.lρ, r.inj, r.pin, r.gh, r.im, fun i c fr h => ?_, r.ar⟩
  · by_cases z : b = p
    · subst z
      have e : (if b = b then some o else f.H0 b) = some u := e
      rw [if_pos rfl] at e
      cases e
      exact hp
    · have e : (if b = p then some o else f.H0 b) = some u := e
      rw [if_neg z] at e
      exact r.ext b u e
  · by_cases z : a = p
    · have e : (if a = p then some o else f.H0 a) = none := e
      rw [if_pos z] at e
      cases e
    · have e : (if a = p then some o else f.H0 a) = none := e
      rw [if_neg z] at e
      exact r.g0 a e
  · obtain ⟨q, d, h1, h2, h3, h4⟩ := r.ow i c fr h
    refine ⟨q, d, h1, h2, ?_, h4⟩
    have nq : q ≠ p := fun z => no ⟨i, c, fr, h, z ▸ h1⟩
    show (if q = p then some o else f.H0 q) = none
    rw [if_neg nq]
    exact h3
theorem R.unhold {o : HO} (r : R K (f.hold p o) Δ ρ σ H) (h0 : f.H0 p = none) (hg : f.G p) : H p = some o ∧ R K f Δ ρ σ H := by
  refine ⟨r.ext p o (if_pos rfl), fun b u e => ?_, fun a e => ?_, r.lσ, r.lρ, r.inj, r.pin, r.gh, r.im, fun i c fr h => ?_, r.ar⟩
  · refine r.ext b u ?_
    have nb : b ≠ p := fun z => by rw [z, h0] at e; cases e
    show (if b = p then some o else f.H0 b) = some u
    rw [if_neg nb]
    exact e
  · by_cases z : a = p
    · exact z ▸ hg
    · refine r.g0 a ?_
      show (if a = p then some o else f.H0 a) = none
      rw [if_neg z]
      exact e
  · obtain ⟨q, d, h1, h2, h3, h4⟩ := r.ow i c fr h
    refine ⟨q, d, h1, h2, ?_, h4⟩
    have h3 : (if q = p then some o else f.H0 q) = none := h3
    by_cases z : q = p
    · rw [if_pos z] at h3
      cases h3
    · rw [if_neg z] at h3
      exact h3
end

section
variable {K : PySem.W.Frag} {W : Wt} {Δ Δn Δb Δc : List Kd} {ta tb te ti : TE} {tt tu : TT} {tA : TA} {g : Gd} {ga gb gx : Gx} {gA : List Dt → O (List Dt × List Dt)} {k : Rk} {av fr av' fr' : Bool} {L : Lk} {i : Nat} {t u : TS} {g1 g2 : Gs}
theorem sx_lc {wi : TI} {g : TG} {vs sl : List Nat} {gi : List Dt → O (List Dt)} {h : Dt → List Dt → O (List Dt)} {TK : Bool → List Kd → List Kd} {gt : List Dt → O Bool} {n : Nat}
    (hi : SI K W0 Δ wi false fr gi) (hg : GJ K n g sl h TK) (hn : Δ.length = n) (hsl : ∀ i ∈ sl, i ∈ vs) (no : noOwn Δ vs = true) (hw : wipeK Δ vs = Δ) (hle : leA (TK fr Δ) Δ = true) (ht : ST K W0 (TK fr Δ) tt gt) (he : SX K (TK fr Δ) te (.v true fr') gx) :
    SX K Δ (tLc wi g tt te vs) (.new .l fr') (xLc vs gi h gt gx) := fun f ρ σ H Q r q => by
  have hv : ∀ i ∈ vs, ∀ k, Δ[i]? = some k → k = .no := fun i hi k e => wipeK_in hi k (by rw [hw]; exact e)
  refine hi f ρ σ H _ r ?_
  unfold xLc at q
  obtain ⟨ds, e1, q⟩ := bx_inv (P := fun o => PoX K f Δ σ (.new .l fr') o Q) id q
  rw [e1]
  by_cases hl : ds.length ≤ 100000
  · rw [if_pos hl] at q
    obtain ⟨⟨all, ρz⟩, ea, q⟩ := bx_inv (P := fun o => PoX K f Δ σ (.new .l fr') o Q) id q
    intro J H1 pf gv ge0 s1 hb hpf x1 sc D nD
    have hpf0 := hb rfl
    subst hpf0
    have r1 := (((r.mono s1).addP (o := .lst []) nD trivial).addG (fr := fr) (x1.mono (same_upd nD) fun a fa na => ⟨fun _ => ⟨(fa.1 rfl).1, fun z => by
      rcases List.mem_cons.mp z with e | h
      · exact na (e ▸ nD)
      · exact (fa.1 rfl).2 h⟩, fa.2⟩))
    obtain ⟨fD1, fD2, fD3⟩ := (r.mono s1).fresh nD
    have gD := r.g0 D fD3
    generalize hf1 : ({ f with P := D :: f.P, Γ := (gv, ge0, fr) :: f.Γ } : Fm) = f1 at r1
    have r1 : R K f1 Δ ρ σ (upd H1 D (.lst [])) := by rw [← hf1]; rw [← hf1] at r1; exact r1
    have dP : D ∈ f1.P := by rw [← hf1]; exact List.mem_cons_self
    have gG : (gv, ge0, fr) ∈ f1.Γ := by rw [← hf1]; exact List.mem_cons_self
    have h0 : f1.H0 D = none := by rw [← hf1]; exact fD3
    have gD1 : f1.G D := by rw [← hf1]; exact gD
    refine ⟨fun i m H' => m = ds.length - i ∧ i ≤ ds.length ∧ ∃ acc es ρi rest, H' D = some (.lst acc) ∧ R K f1 Δ ρi σ H' ∧ RpA K (FM f1 Δ σ true fr') H' acc es ∧ acc.length ≤ i ∧ lcX vs h gt gx (ds.drop i) ρi = .ok (rest, ρz) ∧ all = es ++ rest,
      ⟨ds.length, by simp, Nat.zero_le _, [], [], ρ, all, upd_same, r1, .nil, Nat.le_refl _, ea, rfl⟩, ?_⟩
    rintro i m H2 ⟨rfl, hi2, acc, es, ρi, rest, hD, r2, x2, la, er, eall⟩
    have stand : (∀ q, (none : Option (Addr × HO)) = some q → H2 q.1 = some q.2) ∧ ∃ F, RpA K F H2 gv ge0 := ⟨fun _ e => (nomatch e), _, r2.gh _ gG⟩
    by_cases hlt : i < ds.length
    · refine .inr ⟨sc.goes i H2 hlt stand, fun H' => i + 1 ≤ ds.length ∧ ∃ acc es ρi rest, H' D = some (.lst acc) ∧ R K f1 Δ ρi σ H' ∧ RpA K (FM f1 Δ σ true fr') H' acc es ∧ acc.length ≤ i + 1 ∧ lcX vs h gt gx (ds.drop (i + 1)) ρi = .ok (rest, ρz) ∧ all = es ++ rest,
        fun H' w => ⟨ds.length - (i + 1), by omega, rfl, w⟩, fun x H3 hy => ?_⟩
      obtain ⟨s3, hx⟩ := sc.yields i H2 x H3 hlt stand hy
      obtain ⟨d, hd, x3⟩ := hx _ (r2.gh _ gG)
      have edrop : ds.drop i = d :: ds.drop (i + 1) := by
        have hd' := (List.getElem?_eq_some_iff.mp hd).2
        rw [List.drop_eq_getElem_cons hlt, hd']
      rw [edrop] at er
      unfold lcX at er
      obtain ⟨ρ', eh, er⟩ := bx_inv (P := fun o => o = .ok (rest, ρz)) (fun z => nomatch z) er
      obtain ⟨c, ec, er⟩ := bx_inv (P := fun o => o = .ok (rest, ρz)) (fun z => nomatch z) er
      have r3 := r2.mono s3
      have rw3 := r3.wipe no
      rw [hw] at rw3
      refine hg f1 Δ ρi (wipe σ vs) H3 x d fr _ hn rw3 (x3.weak fun a y => by have := (fm_wipe no).mpr y; rwa [hw] at this) ?_
      rw [eh]
      intro σ4 t4
      have noSl : ∀ i ∈ sl, ∀ c fr, Δ[i]? ≠ some (.own c fr) := fun i hi c fr e => by cases hv i (hsl i hi) _ e
      refine ⟨?_, ?_⟩
      · rw [wipe_eq (σ' := σ4) (σ := wipe σ vs) (by rw [t4.r.lσ, t4.len, wipe_length, r.lσ]) fun i hi => (t4.keep i fun z => hi (hsl i z)).2]
        exact wipe_eq (wipe_length σ vs) fun i hi => wipe_out hi
      · refine ht f1 ρ' σ4 H3 _ t4.r ?_
        rw [ec]
        intro H4 s4
        have s24 := s3.trans s4
        cases c with
        | false =>
          show (if false = true then _ else _)
          rw [if_neg Bool.false_ne_true]
          have er : lcX vs h gt gx (ds.drop (i + 1)) ρi = .ok (rest, ρz) := er
          exact ⟨hlt, acc, es, ρi, rest, s24 _ _ hD, r2.mono s24, x2.same s24, by omega, er, eall⟩
        | true =>
          show (if true = true then _ else _)
          rw [if_pos rfl]
          have er : bx (gx ρ') (fun y => bx (lcX vs h gt gx (ds.drop (i + 1)) (clr vs y.2)) fun z => .ok (y.1 :: z.1, z.2)) = .ok (rest, ρz) := er
          obtain ⟨⟨e, ρ2⟩, ee, er⟩ := bx_inv (P := fun o => o = .ok (rest, ρz)) (fun z => nomatch z) er
          obtain ⟨⟨es', ρ3⟩, ees, er⟩ := bx_inv (P := fun o => o = .ok (rest, ρz)) (fun z => nomatch z) er
          cases er
          have fmi : ∀ {fr1 : Bool} {a : Addr}, FM f1 Δ σ true fr1 a → FM f1 (TK fr Δ) σ4 true fr1 a := fun {fr1 a} y => by
            have := (fm_wipe no).mpr y
            rw [hw] at this
            exact t4.fm this
          have fmo : ∀ {fr1 : Bool} {a : Addr}, FM f1 (TK fr Δ) σ4 true fr1 a → FM f1 Δ σ true fr1 a := fun {fr1 a} y => by
            have := t4.fm' noSl y
            refine (fm_wipe (vs := vs) no).mp ?_
            rw [hw]
            exact this
          have hD4 := s24 _ _ hD
          have r5 := (t4.r.mono s4).addG (fr := fr') ((x2.same s24).weak fun a y => fmi y)
          have r6 := r5.hold (p := D) (o := .lst acc) hD4 dP
          refine he _ ρ' σ4 H4 _ r6 ?_
          rw [ee]
          intro y H5 R5 x5
          obtain ⟨hD5, R5'⟩ := R5.unhold (f := { f1 with Γ := (acc, es, fr') :: f1.Γ }) h0 gD1
          have xa : RpA K (FM f1 Δ σ true fr') H5 acc es := (R5'.gh _ List.mem_cons_self).weak fun a y => fmo y
          have R6 : R K f1 (TK fr Δ) ρ2 σ4 H5 := R.dropG (f := f1) R5'
          have R8 := (R6.weak hle).reno (vs := vs) (σ' := σ) (ρ' := clr vs ρ2) hv (by rw [R6.lσ, r.lσ, leA_len hle]) (clr_len _ _) (fun i hi => by rw [(t4.keep i fun z => hi (hsl i z)).2, wipe_out hi]) fun i hi => clr_out hi
          refine ⟨acc, hD5, Nat.lt_of_lt_of_le (show acc.length < 100001 by omega) (by decide), hlt, acc ++ [y], es ++ [e], clr vs ρ2, es', upd_same, R8.updAt hD5 trivial trivial h0 (fun z => ((R8.pin D dP).2 z)) dP, ?_, by rw [List.length_append, List.length_singleton]; omega, ees, by rw [eall]; simp⟩
          refine (xa.updM hD5 trivial fun a y z => (y.1 rfl).2 (z ▸ dP)).append (.cons ?_ .nil)
          exact Rp.updM hD5 trivial (fun a y z => (y.1 rfl).2 (z ▸ dP)) (x5.weak fun a y => fmo y)
    · have ei : i = ds.length := by omega
      subst ei
      refine .inl ⟨sc.stops H2 stand, ?_⟩
      rw [List.drop_length] at er
      cases er
      rw [List.append_nil] at eall
      subst eall
      refine q D H2 ?_ fD2 fD3 ⟨acc, _, rfl, hD, ?_⟩
      · rw [← hf1] at r2
        exact R.dropG (f := f.pn D) r2
      · rw [← hf1] at x2
        exact x2
  · rw [if_neg hl] at q
    exact q.elim

/-! ### a walk over range(e), e changing an argument -/
theorem s_forX {gg : TG} {sl : List Nat} {n : Nat} {hh : Dt → List Dt → O (List Dt)} {TK : Bool → List Kd → List Kd} (hn : Δ.length = n) (h : SXA K Δ tA av fr gA) (hg : GJ K n gg sl hh TK) (hb : SS K W L (TK true Δ) Δ Δ Δ t g1) :
    SS K W L Δ Δ Δb Δc (tFor (iRng1 tA) gg t) (xFor (xRng1 gA) hh g1) := fun f ρ σ H E r q => by
  refine h f ρ σ H _ r ?_
  obtain ⟨⟨ds, ρ1⟩, e1, q⟩ := bx_inv (P := fun o => PoS K W L f _ Δb Δc o E) id q
  obtain ⟨⟨vs, ρ0⟩, e2, e1⟩ := bx_inv (P := fun o => o = .ok (ds, ρ1)) (fun z => nomatch z) e1
  rw [e2]
  intro ws H1 r1 x1
  simp only at e1
  split at e1
  · rename_i lo hi er
    cases e1
    unfold rng1 at er
    split at er
    · split at er
      · rename_i j c
        injection er with er
        rw [Prod.mk.injEq] at er
        obtain ⟨ea, eb⟩ := er
        subst ea eb
        cases x1 with
        | cons x1 xr =>
          cases xr
          rw [rpInt x1]
          refine ⟨j, rfl, c.1, c.2, ?_⟩
          have key := s_for (W := W) (Δb := Δb) (Δc := Δc) (wi := fun σ H Rk => Rk (Itr 0 (j - 0).toNat) H) (gI := fun _ => .ok (rangeD 0 j)) (fr := true) hn
            (fun f' ρ' σ' H' Rk r' q' => q' _ H' none [] [] (Same.refl H') (fun _ => rfl) (fun _ e => nomatch e) .nil sc_range) hg hb f ρ1 σ H1 E r1 q
          have key : tFor (fun σ H Rk => Rk (Itr 0 (j - 0).toNat) H) gg t E σ H1 := key
          rw [Int.sub_zero] at key
          exact key
      · cases er
    · cases er
  · cases e1

/-! ### pop -/
theorem set_self2 {α : Type} {l : List α} {i : Nat} {a : α} (h : l[i]? = some a) : l.set i a = l := by
  apply List.ext_getElem?
  intro j
  by_cases z : i = j
  · subst z
    rw [List.getElem?_set_self (List.getElem?_eq_some_iff.mp h).1, h]
  · rw [List.getElem?_set_ne z]
theorem RpA.eraseIdx {F : Addr → Prop} {H : Hp} : ∀ {xs : List V} {ds : List Dt} (i : Nat), RpA K F H xs ds → RpA K F H (xs.eraseIdx i) (ds.eraseIdx i)
  | _, _, _, .nil => .nil
  | _, _, 0, .cons _ r => r
  | _, _, i + 1, .cons q r => .cons q (RpA.eraseIdx i r)
theorem sx_popAt (hk : Δ[i]? = some (.own .l fr)) (hb : SX K Δ tb (.v av' fr') gx) : SX K Δ (tBM K "list" rPopAt (tVar i) (tCons tb tNil)) (.v true fr) (xPop i gx) := fun f ρ σ H Q r q => by
  obtain ⟨p, d0, h1, h2, h3, vs, ds, ed, h4, h5⟩ := r.ow i .l fr hk
  refine ⟨_, h1, .inl ⟨rfl, _, .inl (.inl h4)⟩, hb f ρ σ H _ r ?_⟩
  obtain ⟨⟨d, ρ1⟩, e1, q⟩ := bx_inv (P := fun o => PoX K f Δ σ (.v true fr) o Q) id q
  rw [e1]
  intro v H1 r1 x1
  obtain ⟨p', d0', h1', h2', h3', vs', ds', ed', h4', h5'⟩ := r1.ow i .l fr hk
  rw [h1] at h1'
  cases h1'
  subst ed'
  simp only [h2'] at q
  cases d with
  | int k =>
    simp only at q
    split at q
    · rename_i hk'
      split at q
      · rename_i j ej
        split at q
        · rename_i d ed
          obtain ⟨y, hy, xy⟩ := h5'.get' ed
          rw [rpInt x1]
          refine ⟨p, vs', k, j, y, rfl, rfl, h4', hk'.1, hk'.2, by rw [h5'.length]; exact ej, hy, ?_⟩
          have nf : ∀ {fr : Bool} (a : Addr), FM f Δ σ true fr a → a ≠ p := fun a fa z => (fa.1 rfl).1 (z ▸ ⟨i, .l, _, hk, h1⟩)
          have r2 := r1.updOwn hk h1 (c' := .l) (fr' := fr) (o' := .lst (vs'.eraseIdx j)) (show Mutb (.lst _) from trivial) ⟨_, _, rfl, upd_same, (h5'.updM h4' trivial fun a fa => nf a fa).eraseIdx j⟩
          rw [set_self2 hk] at r2
          exact q y _ r2 (Rp.updM h4' trivial (fun a fa => nf a fa) xy)
        · exact q.elim
      · exact q.elim
    · exact q.elim
  | _ => exact q.elim

/-! ### an argument's place read, written -/
theorem se_ownA (hk : Δ[i]? = some (.own .la fr)) : SE K W Δ (tVar i) (.o fr) (gVar i) := fun f ρ σ H Q r q => by
  obtain ⟨p, d, h1, h2, h3, vs, ds, e, h4, h5⟩ := r.ow i .la fr hk
  subst e
  unfold gVar at q
  rw [h2] at q
  exact ⟨_, h1, q p H vs ds rfl (Same.refl H) h4 (r.g0 p h3) h5⟩
theorem s_setIA {ge gi : Gd} (hk : Δ[i]? = some (.own .la fr)) (h : SE K W Δ te (.v true fr') ge) (h2 : SE K W Δ ti (.v av av') gi) : SS K W L Δ (Δ.set i (.own .la (fr && fr'))) Δb Δc (tAsg te (gSub (tVar i) ti rSetL)) (gSetI i ge gi) := fun f ρ σ H E r q => h f ρ σ H _ r <| by
  obtain ⟨p, d, g1, g2, g3, vs, ds, ed, g4, g5⟩ := r.ow i .la fr hk
  subst ed
  unfold gSetI at q
  cases e : ge ρ with
  | bad => rw [e] at q; exact q
  | ex z => rw [e] at q; exact fun H' s => q σ H' (r.ext.trans s)
  | ok d =>
    rw [e, bnd_ok, g2] at q
    simp only at q
    intro v H1 s x
    refine ⟨_, g1, h2 f ρ σ H1 _ (r.mono s) ?_⟩
    cases e2 : gi ρ with
    | bad => rw [e2] at q; exact q
    | ex z => rw [e2] at q; exact fun H' s2 => q σ H' ((r.ext.trans s).trans s2)
    | ok k =>
      rw [e2, bnd_ok] at q
      intro kv H2 s2 xk
      cases k with
      | int k =>
        simp only at q
        cases ej : ixN ds.length k with
        | none => rw [ej] at q; exact q.elim
        | some j =>
          rw [ej] at q
          rw [rpInt xk]
          have s12 := s.trans s2
          have hp := s12 _ _ g4
          refine ⟨p, vs, k, j, rfl, rfl, hp, by rw [g5.length]; exact ej, q σ _ ?_⟩
          refine (r.mono s12).updOwn hk g1 (c' := .la) (show Mutb (.lst _) from trivial) ⟨_, _, rfl, upd_same, ?_⟩
          have nf : ∀ {fr : Bool} (a : Addr), FM f Δ σ true fr a → a ≠ p := fun a fa z => (fa.1 rfl).1 (z ▸ ⟨i, .la, _, hk, g1⟩)
          exact RpA.set ((Rp.updM hp trivial (fun a fa => nf a fa) (x.same s2)).weak fun a y => y.weak id fun h => (Bool.and_eq_true_iff.mp h).2) j
            (((g5.same s12).updM hp trivial fun a fa => nf a fa).weak fun a y => y.weak id fun h => (Bool.and_eq_true_iff.mp h).1)
      | _ => exact q.elim
end

/-! ### defs -/
def kdM (c : Ct) (n m : Nat) : List Kd := .own c true :: (List.replicate (n - 1) (.im false) ++ List.replicate (m - n) .no)
theorem r_startM {K : PySem.W.Frag} {H : Hp} {a : Addr} {vs : List V} {d : Dt} {ds : List Dt} {c : Ct} {n m : Nat} {N : List Str} (hv : vs.length + 1 = n) (hN : N.length = m) (hm : n ≤ m) (hc : isArg c = true) (ha : argK c d = true) (hd : ArgAt K H a d) (x : RpA K (fun b => b ≠ a) H vs ds) :
    R K ⟨fun b => if b = a then none else H b, fun b => H b = none ∨ b = a, [], [], some a⟩ (kdM c n m) ((d :: ds) ++ List.replicate (m - (d :: ds).length) .none) (L2.start N (.ref a :: vs)) H := by
  have ld : ds.length + 1 = n := by rw [← x.length]; exact hv
  have hn1 : n - 1 = vs.length := by omega
  have own0 : ∀ (i : Nat) (c' : Ct) (fr' : Bool), (kdM c n m)[i]? = some (.own c' fr') → i = 0 ∧ c' = c ∧ fr' = true := fun i c' fr' e => by
    cases i with
    | zero => cases e; exact ⟨rfl, rfl, rfl⟩
    | succ i =>
      unfold kdM at e
      rw [List.getElem?_cons_succ] at e
      rcases List.mem_append.mp (List.mem_of_getElem? e) with h | h
      · cases List.eq_of_mem_replicate h
      · cases List.eq_of_mem_replicate h
  have s0 : (L2.start N (.ref a :: vs))[0]? = some (some (V.ref a)) := rfl
  have ow : ∀ b, Ow (kdM c n m) (L2.start N (.ref a :: vs)) b → b = a := fun b ⟨i, c', fr', h1, h2⟩ => by
    obtain ⟨rfl, _, _⟩ := own0 i c' fr' h1
    rw [s0] at h2
    cases h2
    rfl
  obtain ⟨o, ho, mo, hw⟩ := owC_of (c' := c) (F := FM ⟨fun b => if b = a then none else H b, fun b => H b = none ∨ b = a, [], [], some a⟩ (kdM c n m) (L2.start N (.ref a :: vs)) true true) (by cases c <;> first | rfl | cases hc) hd ha
  refine ⟨fun b u e => ?_, fun b e => ?_, ?_, ?_, ?_, fun b hb => absurd hb (by simp), fun g hg => absurd hg (by simp), fun i fr' h => ?_, fun i c' fr' h => ?_, fun i c' fr' h h' => ?_⟩
  · have e : (if b = a then none else H b) = some u := e
    by_cases z : b = a
    · rw [if_pos z] at e; cases e
    · rw [if_neg z] at e; exact e
  · have e : (if b = a then none else H b) = none := e
    by_cases z : b = a
    · exact .inr z
    · rw [if_neg z] at e; exact .inl e
  · unfold L2.start kdM
    simp only [List.length_append, List.length_map, List.length_replicate, List.length_cons, hN]
    omega
  · unfold kdM
    simp only [List.length_append, List.length_replicate, List.length_cons]
    omega
  · intro i j ci fi cj fj p h1 h2 _ _
    obtain ⟨rfl, _, _⟩ := own0 i ci fi h1
    obtain ⟨rfl, _, _⟩ := own0 j cj fj h2
    rfl
  · cases i with
    | zero => cases h
    | succ i =>
      unfold kdM at h
      rw [List.getElem?_cons_succ] at h
      by_cases hi : i < n - 1
      · rw [List.getElem?_append_left (by rw [List.length_replicate]; exact hi)] at h
        have efr : fr' = false := by
          have := List.eq_of_mem_replicate (List.mem_of_getElem? h)
          cases this; rfl
        subst efr
        have hi' : i < vs.length := by omega
        obtain ⟨d', h1, h2⟩ := x.get (List.getElem?_eq_getElem hi')
        refine ⟨vs[i], d', ?_, ?_, h2.weak fun b nb => ⟨fun _ => ⟨fun z => nb (ow b z), by simp⟩, fun e => nomatch e⟩⟩
        · unfold L2.start
          rw [List.getElem?_append_left (by rw [List.length_map, List.length_cons]; omega), List.getElem?_map, List.getElem?_cons_succ, List.getElem?_eq_getElem hi']
          rfl
        · rw [List.cons_append, List.getElem?_cons_succ, List.getElem?_append_left (by omega)]
          exact h1
      · rw [List.getElem?_append_right (by rw [List.length_replicate]; omega)] at h
        cases List.eq_of_mem_replicate (List.mem_of_getElem? h)
  · obtain ⟨rfl, rfl, rfl⟩ := own0 i c' fr' h
    exact ⟨a, d, s0, rfl, if_pos rfl, hw _ ho⟩
  · obtain ⟨rfl, rfl, rfl⟩ := own0 i c' fr' h
    exact ⟨a, rfl, s0⟩
section
variable {P : Program} {w : World} {K : PySem.W.Frag} {mg : Str → Option Value} {base : Heap} {x qual : Str} {st : Stmt} {fa : Addr} {fd : FuncData} {N ps : List Str} {k n m : Nat} {Δn : List Kd} {g : Gs} {c : Ct}
theorem fn_okM (F : L2.Fun K x qual st fa fd) (S : FnScope N ps (defScope st)) (hn : ps.length = n) (hm : N.length = m) (hnm : n ≤ m) (hc : isArg c = true)
    (hb : ∀ (cdv : Value) (A : Around) (outer : List Env) (s : Shared) (H : Hp) (E : XK), Room k (A.deeper (envOfC qual (defScope st) s.heap.objs.size fa cdv)) → ∃ ts, BD (cxOf CX0 P w K mg base N qual (defScope st) fa cdv A outer s H E).nox K W0 .m (kdM c n m) Δn (kdM c n m) (kdM c n m) (defBody st) ts g) :
    FnOk P w K mg base CX0 (k + 1) fa fd ps (spM K c n (fnN m g)) := by
  refine F.ok S (fun vs H Q E h => ?_) (fun cdv A outer s H vs Q E hr h => ?_)
  · obtain ⟨a, vs', d, ds', rfl, h1, _⟩ := h
    rw [h1, hn]
  · obtain ⟨a, vs', d, ds', rfl, h1, h2, h3, h4, h5⟩ := h
    obtain ⟨ts, B⟩ := hb cdv A outer s H E hr
    refine ⟨ts, B.ps, B.ss _ _ _ H _ (r_startM (by rw [List.length_cons] at h1; exact h1) hm hnm hc h2 h3 h4) ?_⟩
    unfold fnN at h5
    cases e : g ((d :: ds') ++ List.replicate (m - (d :: ds').length) .none) with
    | bad => rw [e] at h5; exact h5.elim
    | ex z => rw [e] at h5; exact h5.elim
    | ok fl =>
      rw [e] at h5
      cases fl with
      | nx ρ => exact h5.elim
      | rt z =>
        unfold PoS
        simp only
        have h5 : (match (O.ok z : O Dt) with
          | .ok (.tuple [r, e]) => ∀ v H', (∀ b o, b ≠ a → H b = some o → H' b = some o) → ArgAt K H' a e → Rp K (fun b => H b = none) H' v r → Q v H'
          | _ => False) := h5
        split at h5
        · rename_i r e ez
          cases ez
          simp only
          refine fun v H' s arg x => h5 v H' (fun b o nb eb => s b o ?_) arg (x.weak fun b fb => ?_)
          · show (if b = a then none else H b) = some o
            rw [if_neg nb]
            exact eb
          · rcases fb.1 with q | q
            · exact q
            · exact absurd q fb.2
        · exact h5.elim
      | bk ρ => exact h5.elim
      | ct ρ => exact h5.elim
theorem fn_okML (F : L2.Fun K x qual st fa fd) (S : FnScope N ps (defScope st)) (hn : ps.length = n) (hm : N.length = m) (hnm : n ≤ m) (hc : isArg c = true)
    (hb : ∀ (cdv : Value) (A : Around) (outer : List Env) (s : Shared) (H : Hp) (E : XK), Room k (A.deeper (envOfC qual (defScope st) s.heap.objs.size fa cdv)) → ∃ ts, BD (cxOf CX0 P w K mg base N qual (defScope st) fa cdv A outer s H E).nox K W0 .ml (kdM c n m) Δn (kdM c n m) (kdM c n m) (defBody st) ts g) :
    FnOk P w K mg base CX0 (k + 1) fa fd ps (spML K c n (fnL m g)) := by
  refine F.ok S (fun vs H Q E h => ?_) (fun cdv A outer s H vs Q E hr h => ?_)
  · obtain ⟨a, vs', d, ds', rfl, h1, _⟩ := h
    rw [h1, hn]
  · obtain ⟨a, vs', d, ds', rfl, h1, h2, h3, h4, h5⟩ := h
    obtain ⟨ts, B⟩ := hb cdv A outer s H E hr
    refine ⟨ts, B.ps, B.ss _ _ _ H _ (r_startM (by rw [List.length_cons] at h1; exact h1) hm hnm hc h2 h3 h4) ?_⟩
    unfold fnL at h5
    cases e : g ((d :: ds') ++ List.replicate (m - (d :: ds').length) .none) with
    | bad => rw [e] at h5; exact h5.elim
    | ex z => rw [e] at h5; exact h5.elim
    | ok fl =>
      rw [e] at h5
      cases fl with
      | nx ρ => exact h5.elim
      | rt z =>
        unfold PoS
        simp only
        have h5 : (match (O.ok z : O Dt) with
          | .ok (.tuple [r, e]) => ∀ p H', p ≠ a → H p = none → (∀ b o, b ≠ a → H b = some o → H' b = some o) → ArgAt K H' a e → OwC K .l (fun b => H b = none ∧ b ≠ p) H' p r → Q (.ref p) H'
          | _ => False) := h5
        split at h5
        · rename_i r e ez
          cases ez
          simp only
          refine fun p H' npa np s arg x => h5 p H' npa ?_ (fun b o nb eb => s b o ?_) arg (x.map (fun _ e => e) fun _ _ y => y.weak fun b fb => ⟨?_, fb.2⟩)
          · have np : (if p = a then none else H p) = none := np
            rw [if_neg npa] at np
            exact np
          · show (if b = a then none else H b) = some o
            rw [if_neg nb]
            exact eb
          · rcases fb.1.1 with q | q
            · exact q
            · exact absurd q fb.1.2
        · exact h5.elim
      | bk ρ => exact h5.elim
      | ct ρ => exact h5.elim
end
end Sim
end T_SimN

section T_SimO
set_option Elab.async false
set_option linter.all false
set_option maxRecDepth 100000
/-! SimO: the rules for a text: expressions and statements that change an argument; abs, d.get(k, x). -/
namespace Sim
open PySem PySem.Spec L2
open PyProof.Rows hiding St

/-! ### abs, d.get(k, x) -/
def hAbs : List Dt → O Dt := fun ds => match ds with
  | [.int i] => .ok (.int (if i < 0 then -i else i))
  | _ => .bad
def gDGetD (i : Nat) (gk gx : Gd) : Gd := fun ρ => match dAt ρ i with
  | some es => bnd (gk ρ) fun kd => bnd (gx ρ) fun x => (match keyOf kd with
    | some k => .ok ((dGet es k).getD x)
    | none => .bad)
  | none => .bad
section
variable {K : PySem.W.Frag} {W : Wt} {Δ : List Kd} {ti tx : TE} {gk gx : Gd} {fr fr' fr2 av av2 : Bool} {i : Nat}
theorem csc_abs : CSc K (fun xs H Q => ∃ i, xs = [.int i] ∧ Q (.int (if i < 0 then -i else i)) H) hAbs := fun H xs ds Q hx h => by
  cases hx with
  | nil => exact h.elim
  | cons x r =>
    cases r with
    | nil =>
      cases x with
      | int i => exact ⟨i, rfl, h.2 _ (.int _)⟩
      | _ => exact h.elim
    | cons y r => cases x <;> exact h.elim
theorem scl_abs : SclA hAbs := fun ds => by
  unfold hAbs
  split
  · exact .inl ⟨_, rfl, rfl⟩
  · exact .inr rfl
theorem se_dgetD (hk : Δ[i]? = some (.own .dk fr)) (h : SE K W Δ ti (.v av fr') gk) (hx : SE K W Δ tx (.v true fr2) gx) : SE K W Δ (tDGet2 (tVar i) ti tx) (.v true (fr && fr2)) (gDGetD i gk gx) := fun f ρ σ H Q r q => by
  unfold gDGetD at q
  cases ed : dAt ρ i with
  | none => rw [ed] at q; exact q.elim
  | some es =>
    rw [ed] at q
    obtain ⟨p, kvs, g1, g3, g4, g5⟩ := dk_own r hk ed
    refine ⟨_, g1, p, rfl, .inl ⟨kvs, .inl g4⟩, h f ρ σ H _ r ?_⟩
    simp only at q
    cases e2 : gk ρ with
    | bad => rw [e2] at q; exact q
    | ex z => rw [e2] at q; exact q
    | ok kd =>
      rw [e2, bnd_ok] at q
      intro kv H1 s1 xk
      refine hx f ρ σ H1 _ (r.mono s1) ?_
      cases e3 : gx ρ with
      | bad => rw [e3] at q; exact q
      | ex z => rw [e3] at q; exact fun H' s => q H' (s1.trans s)
      | ok x =>
        rw [e3, bnd_ok] at q
        intro w H2 s2 xx
        have s12 := s1.trans s2
        cases ek : keyOf kd with
        | none => rw [ek] at q; exact q.elim
        | some k =>
          rw [ek] at q
          simp only at q
          rw [kV_keyOf xk ek]
          refine ⟨valV kvs k, DGet.k (s12 _ _ g4), ?_⟩
          rcases g5.get k with ⟨e1, e⟩ | ⟨v, d, e1, e, x'⟩
          · rw [e1]
            rw [e] at q
            exact q w H2 s12 (xx.fm id fun h => (Bool.and_eq_true_iff.mp h).2)
          · rw [e1]
            rw [e] at q
            exact q v H2 s12 ((x'.same s12).fm id fun h => (Bool.and_eq_true_iff.mp h).1)
end

def xPur (g : Gx) : Gx := fun ρ => bx (g ρ) fun x => if pure1 x.1 then .ok x else .bad
theorem SX.pur {K : PySem.W.Frag} {Δ : List Kd} {te : TE} {gx : Gx} {av fr : Bool} (h : SX K Δ te (.v av fr) gx) : SX K Δ te (.v true true) (xPur gx) := fun f ρ σ H Q r q => h f ρ σ H Q r <| by
  obtain ⟨⟨d, ρ1⟩, e1, q⟩ := bx_inv (P := fun o => PoX K f Δ σ (.v true true) o Q) id q
  rw [e1]
  intro v H' r' x
  by_cases p : pure1 d = true
  · simp only [p, if_true] at q
    exact q v H' r' (x.pure p)
  · simp only [p, if_false] at q
    exact q.elim

/-! ### texts -/
structure XD (X : Cx) (K : PySem.W.Frag) (Δ : List Kd) (e : Expr) (te : TE) (k : Rk) (g : Gx) : Prop where
  pe : PE X e te
  hK : X.K = K
  sx : SX K Δ te k g
structure XTD (X : Cx) (K : PySem.W.Frag) (Δ : List Kd) (e : Expr) (tt : TT) (g : List Dt → O (Bool × List Dt)) : Prop where
  pt : PT X e tt
  hK : X.K = K
  st : SXT K Δ tt g
structure XWD (X : Cx) (K : PySem.W.Frag) (Δ : List Kd) (e : Expr) (tt : TT) (g : List Dt → O (Bool × List Dt)) : Prop where
  pw : PW X e tt
  hK : X.K = K
  st : SXT K Δ tt g
structure XAD (X : Cx) (K : PySem.W.Frag) (Δ : List Kd) (es : List Expr) (ta : TA) (av fr : Bool) (g : List Dt → O (List Dt × List Dt)) : Prop where
  pa : PA X es ta
  hK : X.K = K
  sa : SXA K Δ ta av fr g

structure BDp (X : Cx) (K : PySem.W.Frag) (Δ : List Kd) (i : Nat) (es : List Expr) (ta : TA) (g : List Dt → O (List Dt)) : Prop where
  pa : PA X es ta
  hK : X.K = K
  sb : SB K Δ i ta g
structure XBD (X : Cx) (K : PySem.W.Frag) (Δ : List Kd) (i : Nat) (es : List Expr) (ta : TA) (g : List Dt → O (List Dt × List Dt)) : Prop where
  pa : PA X es ta
  hK : X.K = K
  sb : SXB K Δ i ta g
section
variable {X : Cx} {K : PySem.W.Frag} {W : Wt} {Δ Δ1 Δn Δb Δc : List Kd} {a b c e f elt tg iter : Expr} {es ifs : List Expr} {ta tb tc te ti tx : TE} {tt tu : TT} {tA : TA} {g gk gx0 ge gi : Gd} {ga gb gx : Gx} {gt0 : List Dt → O Bool} {gt gu : List Dt → O (Bool × List Dt)} {gA : List Dt → O (List Dt × List Dt)} {gA0 gI : List Dt → O (List Dt)} {k : Rk} {av fr av' fr' av2 fr2 : Bool} {L : Lk} {pos pos' : Pos} {t u : TS} {g1 g2 : Gs} {sts sts2 : List Stmt} {i : Nat}

theorem x_abs {x : Str} {p : Pos} (hm : X.mg x = none) (h : AD X K W Δ (e :: es) tA av fr gA0) (hv : bootBuiltins x = some (.builtin "abs") := by decide +kernel) (hg : Gl X x := by rfl) (hn : x ≠ "__name__" := by decide) (hdb : (x == ("__debug__" : Str)) = false := by decide)
    (he : starEach (e :: es) X.env = (false, eval e X.env) :: starEach es X.env := by rfl) (hpl : (backTo pos (starEach es X.env)).any (·.1) = false := by rfl) :
    PD X K W Δ (.Call (.Name x p) (e :: es) [] pos) (tCB (fun xs H Q => ∃ i, xs = [.int i] ∧ Q (.int (if i < 0 then -i else i)) H) tA) (.v true true) (gCB hAbs gA0) := ⟨pe_callB call_abs hg hm hv h.pa hn hdb he hpl, h.hK, se_cb scl_abs csc_abs h.sa⟩
theorem x_dgetD {m : Nat} {x : Str} {p apos cpos : Pos} (i : Nat) (hr : Room m X.A) (h : PD X K W Δ e te (.v av fr') gk) (hx : PD X K W Δ f tx (.v true fr2) gx0) (hk : Δ[i]? = some (.own .dk fr) := by rfl) (hv : Vis X.env.scope x := by first | exact Or.inl rfl | exact Or.inr (Or.inl rfl) | exact Or.inr (Or.inr rfl)) (hN : X.N[i]? = some x := by rfl) (hd : (x == ("__debug__" : Str)) = false := by decide) (hcd : (x == ("__classdict__" : Str)) = false := by decide)
    (m : M2 X (.Name x p) "get" apos e f cpos := by exact ⟨rfl, rfl, rfl, rfl⟩) :
    PD X K W Δ (.Call (.Attribute (.Name x p) "get" apos) [e, f] [] cpos) (tDGet2 (tVar i) te tx) (.v true (fr && fr2)) (gDGetD i gk gx0) := ⟨pe_dget2 (by have := hr.un; omega) (pe_var hN hv hd hcd) h.pe hx.pe m, h.hK, se_dgetD hk h.se hx.se⟩

theorem xd_of (h : PD X K W0 Δ e te (.v av fr) g) : XD X K Δ e te (.v av fr) (xP g) := ⟨h.pe, h.hK, SX.of h.se⟩
theorem xd_ofN {ct : Ct} (h : PD X K W0 Δ e te (.new ct fr) g) : XD X K Δ e te (.new ct fr) (xP g) := ⟨h.pe, h.hK, SX.ofN h.se⟩
theorem XD.wk (h : XD X K Δ e te (.v av fr) gx) (h1 : av' = true → av = true := by decide) (h2 : fr' = true → fr = true := by decide) : XD X K Δ e te (.v av' fr') gx := ⟨h.pe, h.hK, h.sx.wk h1 h2⟩
theorem XD.pur (h : XD X K Δ e te (.v av fr) gx) : XD X K Δ e te (.v true true) (xPur gx) := ⟨h.pe, h.hK, h.sx.pur⟩
theorem XD.nv (h : XD X K Δ e te (.new .l fr) gx) : XD X K Δ e te (.v true fr) gx := ⟨h.pe, h.hK, h.sx.nv⟩
theorem xa_nil (hK : X.K = K := by rfl) : XAD X K Δ [] tNil true true xNil := ⟨pa_nil, hK, sxa_nil⟩
theorem xa_cons (ha : XD X K Δ a ta (.v true fr) ga) (hr : XAD X K Δ es tA true fr' gA) (hs : starEach (a :: es) X.env = (false, eval a X.env) :: starEach es X.env := by rfl) : XAD X K Δ (a :: es) (tCons ta tA) true (fr && fr') (xCons ga gA) := ⟨pa_cons ha.pe hr.pa hs, ha.hK, sxa_cons ha.sx hr.sa⟩
theorem xa_of (h : AD X K W0 Δ es tA av fr gA0) : XAD X K Δ es tA av fr (xPA gA0) := ⟨h.pa, h.hK, SXA.of h.sa⟩
theorem XAD.to (av' fr' : Bool) (h : XAD X K Δ es tA av fr gA) (h1 : av' = true → av = true := by decide) (h2 : fr' = true → fr = true := by decide) : XAD X K Δ es tA av' fr' gA := ⟨h.pa, h.hK, h.sa.wk h1 h2⟩

theorem yb_nil (hK : X.K = K := by rfl) : BDp X K Δ i [] tNil gNil := ⟨pa_nil, hK, sb_nil⟩
theorem yb_cons {c' : Ct} {g0 : Gd} (ha : PD X K W0 Δ a ta (.v true fr) g0) (hr : BDp X K Δ i es tA gA0) (hk : Δ[i]? = some (.own c' fr') := by rfl) (hs : starEach (a :: es) X.env = (false, eval a X.env) :: starEach es X.env := by rfl) : BDp X K Δ i (a :: es) (tCons ta tA) (gCons g0 gA0) := ⟨pa_cons ha.pe hr.pa hs, ha.hK, sb_cons hk ha.se hr.sb⟩
theorem yb_own {c' : Ct} (j : Nat) {x : Str} {p : Pos} (hr : BDp X K Δ i es tA gA0) (hj : Δ[j]? = some (.own .l fr) := by rfl) (hk : Δ[i]? = some (.own c' fr') := by rfl) (hij : i ≠ j := by decide) (hN : X.N[j]? = some x := by rfl) (hv : Vis X.env.scope x := by first | exact Or.inl rfl | exact Or.inr (Or.inl rfl) | exact Or.inr (Or.inr rfl)) (hd : (x == ("__debug__" : Str)) = false := by decide)
    (hcd : (x == ("__classdict__" : Str)) = false := by decide) (hs : starEach (.Name x p :: es) X.env = (false, eval (.Name x p) X.env) :: starEach es X.env := by rfl) : BDp X K Δ i (.Name x p :: es) (tCons (tVar j) tA) (gCons (gVar j) gA0) := ⟨pa_cons (pe_var hN hv hd hcd) hr.pa hs, hr.hK, sb_own hj hk hij hr.sb⟩
theorem xb_p (h : BDp X K Δ i es tA gA0) : XBD X K Δ i es tA (xPA gA0) := ⟨h.pa, h.hK, sxb_of h.sb⟩
theorem xb_a {c' : Ct} (h : XAD X K Δ es tA true fr gA) (hk : Δ[i]? = some (.own c' fr') := by rfl) : XBD X K Δ i es tA gA := ⟨h.pa, h.hK, sxb_a hk h.sa⟩
theorem xd_add (ha : XD X K Δ a ta (.v true fr) ga) (hb : XD X K Δ b tb (.v av' fr') gb) : XD X K Δ (.BinOp a .Add b pos) (tOp (rI0 fun i j => .int (i + j)) ta tb) (.v true true) (xOp hAdd ga gb) := ⟨pe_op op_add ha.pe hb.pe, ha.hK, sx_op scl_I0 osc_I0 ha.sx hb.sx⟩
theorem xd_sub (ha : XD X K Δ a ta (.v true fr) ga) (hb : XD X K Δ b tb (.v av' fr') gb) : XD X K Δ (.BinOp a .Sub b pos) (tOp (rI0 fun i j => .int (i - j)) ta tb) (.v true true) (xOp hSub ga gb) := ⟨pe_op op_sub ha.pe hb.pe, ha.hK, sx_op scl_I0 osc_I0 ha.sx hb.sx⟩
theorem xd_mul (ha : XD X K Δ a ta (.v true fr) ga) (hb : XD X K Δ b tb (.v av' fr') gb) : XD X K Δ (.BinOp a .Mult b pos) (tOp (rI CMul fun i j => .int (i * j)) ta tb) (.v true true) (xOp hMul ga gb) := ⟨pe_op op_mul ha.pe hb.pe, ha.hK, sx_op scl_I (osc_I fun _ _ => cMul_ok) ha.sx hb.sx⟩
theorem xd_div (ha : XD X K Δ a ta (.v true fr) ga) (hb : XD X K Δ b tb (.v av' fr') gb) : XD X K Δ (.BinOp a .FloorDiv b pos) (tOp (rI CDivW fun i j => .int (i / j)) ta tb) (.v true true) (xOp hDiv ga gb) := ⟨pe_op op_fdivW ha.pe hb.pe, ha.hK, sx_op scl_I (osc_I fun _ _ => cDiv_ok) ha.sx hb.sx⟩
theorem xd_mod (ha : XD X K Δ a ta (.v true fr) ga) (hb : XD X K Δ b tb (.v av' fr') gb) : XD X K Δ (.BinOp a .Mod b pos) (tOp (rI (fun _ j => 0 < j) fun i j => .int (i % j)) ta tb) (.v true true) (xOp hMod ga gb) := ⟨pe_op op_mod ha.pe hb.pe, ha.hK, sx_op scl_I (osc_I fun _ _ => cMod_ok) ha.sx hb.sx⟩
theorem xd_cmp {op : CmpOp} {r : R2} {h : Dt → Dt → O Dt} (o : OR X K op r h) (ha : XD X K Δ a ta (.v true fr) ga) (hb : XD X K Δ b tb (.v av' fr') gb) (hm : behindInMarks op b = false := by first | exact nobehind _ (by decide) (by decide) | rfl) : XD X K Δ (.Compare a [op] [b] pos) (tOp r ta tb) (.v true true) (xOp h ga gb) := ⟨pe_cmpR o.ho ha.pe hb.pe hm, ha.hK, sx_op o.scl o.osc ha.sx hb.sx⟩
theorem xt_cmp {op : CmpOp} {r : R2} {h : Dt → Dt → O Dt} (o : OR X K op r h) (ha : XD X K Δ a ta (.v true fr) ga) (hb : XD X K Δ b tb (.v av' fr') gb) (hm : behindInMarks op b = false := by first | exact nobehind _ (by decide) (by decide) | rfl) : XTD X K Δ (.Compare a [op] [b] pos) (tTest (tOp r ta tb)) (xTest (xOp h ga gb)) := ⟨pt_cmpR o.ho ha.pe hb.pe hm, ha.hK, sxt_test (sx_op o.scl o.osc ha.sx hb.sx)⟩
theorem xd_ix (ha : XD X K Δ a ta (.v true fr) ga) (hb : XD X K Δ b tb (.v av' fr') gb) (hs : PlainIx b := by exact fun _ _ => rfl) : XD X K Δ (.Subscript a b pos) (tOp (rIx K) ta tb) (.v true fr) (xOp hIx ga gb) :=
  ⟨pe_ix (by have q := ix_seq (X := X); rw [ha.hK] at q; exact q) ha.pe hb.pe hs, ha.hK, sx_ix ha.sx hb.sx⟩
theorem xd_ixO (i : Nat) {x : Str} {p : Pos} (hb : XD X K Δ b tb (.v av' fr') gb) (hk : Δ[i]? = some (.own .l fr) := by rfl) (hN : X.N[i]? = some x := by rfl) (hv : Vis X.env.scope x := by first | exact Or.inl rfl | exact Or.inr (Or.inl rfl) | exact Or.inr (Or.inr rfl)) (hd : (x == ("__debug__" : Str)) = false := by decide)
    (hcd : (x == ("__classdict__" : Str)) = false := by decide) (hs : PlainIx b := by exact fun _ _ => rfl) : XD X K Δ (.Subscript (.Name x p) b pos) (tOp (rIx K) (tVar i) tb) (.v true fr) (xIxO i gb) :=
  ⟨pe_ix (by have q := ix_seq (X := X); rw [hb.hK] at q; exact q) (pe_var hN hv hd hcd) hb.pe hs, hb.hK, sx_ixO hk hb.sx⟩
theorem xd_tup {x1} (h : XAD X K Δ es tA av fr gA) : XD X K Δ (.Tuple es x1 pos) (tTup tA) (.v av fr) (xTup gA) := ⟨pe_tup h.pa, h.hK, sx_tup h.sa⟩
theorem xd_lst (h : XAD X K Δ es tA true fr gA) : XD X K Δ (.List es pos) (tLst tA) (.new .l fr) (xLst gA) := ⟨pe_lst h.pa, h.hK, sx_lst h.sa⟩
/-! tests -/
theorem xt_of (h : TD X K W0 Δ e tt gt0) : XTD X K Δ e tt (xPT gt0) := ⟨h.pt, h.hK, SXT.of h.st⟩
theorem xt_val (h : XD X K Δ e te (.v av fr) gx) (he : ∀ whole, isTrue e X.env whole = (do let v ← whole; standAt e.pos; holding [v] (truthy v)) := by intro _; rfl) : XTD X K Δ e (tB te) (xTest gx) := ⟨pt_val h.pe he, h.hK, sxt_test h.sx⟩
theorem xt_not (h : XTD X K Δ a tt gt) : XTD X K Δ (.UnaryOp .Not a pos) (tNot tt) (xNot gt) := ⟨pt_not h.pt, h.hK, sxt_not h.st⟩
theorem xw_and1 (h : XTD X K Δ a tt gt) : XWD X K Δ (.BoolOp .And [a] pos) tt gt := ⟨pw_and1 h.pt, h.hK, h.st⟩
theorem xw_or1 (h : XTD X K Δ a tt gt) : XWD X K Δ (.BoolOp .Or [a] pos) tt gt := ⟨pw_or1 h.pt, h.hK, h.st⟩
theorem xw_and (h : XTD X K Δ a tt gt) (h2 : XWD X K Δ (.BoolOp .And (b :: es) pos) tu gu) : XWD X K Δ (.BoolOp .And (a :: b :: es) pos) (tAnd tt tu) (xAnd gt gu) := ⟨pw_and h.pt h2.pw, h.hK, sxt_and h.st h2.st⟩
theorem xw_or (h : XTD X K Δ a tt gt) (h2 : XWD X K Δ (.BoolOp .Or (b :: es) pos) tu gu) : XWD X K Δ (.BoolOp .Or (a :: b :: es) pos) (tOr tt tu) (xOr gt gu) := ⟨pw_or h.pt h2.pw, h.hK, sxt_or h.st h2.st⟩
theorem xt_w (h : XWD X K Δ e tt gt) : XTD X K Δ e tt gt := ⟨h.pw.pt, h.hK, h.st⟩
/-! calls -/
theorem xd_min2 {x : Str} {p : Pos} (hm : X.mg x = none) (h : XAD X K Δ (e :: es) tA av fr gA) (hc : X.calm = true := by rfl) (hv : bootBuiltins x = some (.builtin "min") := by decide +kernel) (hg : Gl X x := by rfl) (hn : x ≠ "__name__" := by decide) (hdb : (x == ("__debug__" : Str)) = false := by decide)
    (he : starEach (e :: es) X.env = (false, eval e X.env) :: starEach es X.env := by rfl) (hpl : (backTo pos (starEach es X.env)).any (·.1) = false := by rfl) :
    XD X K Δ (.Call (.Name x p) (e :: es) [] pos) (tCB (fun xs H Q => ∃ i j, xs = [.int i, .int j] ∧ Q (.int (if j < i then j else i)) H) tA) (.v true true) (xCB hMin2 gA) := ⟨pe_callB (call_min2 hc) hg hm hv h.pa hn hdb he hpl, h.hK, sx_cb scl_min2 csc_min2 h.sa⟩
theorem xd_max2 {x : Str} {p : Pos} (hm : X.mg x = none) (h : XAD X K Δ (e :: es) tA av fr gA) (hc : X.calm = true := by rfl) (hv : bootBuiltins x = some (.builtin "max") := by decide +kernel) (hg : Gl X x := by rfl) (hn : x ≠ "__name__" := by decide) (hdb : (x == ("__debug__" : Str)) = false := by decide)
    (he : starEach (e :: es) X.env = (false, eval e X.env) :: starEach es X.env := by rfl) (hpl : (backTo pos (starEach es X.env)).any (·.1) = false := by rfl) :
    XD X K Δ (.Call (.Name x p) (e :: es) [] pos) (tCB (fun xs H Q => ∃ i j, xs = [.int i, .int j] ∧ Q (.int (if j > i then j else i)) H) tA) (.v true true) (xCB hMax2 gA) := ⟨pe_callB (call_max2 hc) hg hm hv h.pa hn hdb he hpl, h.hK, sx_cb scl_max2 csc_max2 h.sa⟩
theorem xd_int1 {x : Str} {p : Pos} (hm : X.mg x = none) (h : XAD X K Δ (e :: es) tA av fr gA) (hv : bootBuiltins x = some (.type "int") := by decide +kernel) (hg : Gl X x := by rfl) (hn : x ≠ "__name__" := by decide) (hdb : (x == ("__debug__" : Str)) = false := by decide)
    (he : starEach (e :: es) X.env = (false, eval e X.env) :: starEach es X.env := by rfl) (hpl : (backTo pos (starEach es X.env)).any (·.1) = false := by rfl) :
    XD X K Δ (.Call (.Name x p) (e :: es) [] pos) (tCB (fun xs H Q => (∃ i, xs = [.int i] ∧ Q (.int i) H) ∨ ∃ k, xs = [.bl k] ∧ Q (.int (if k then 1 else 0)) H) tA) (.v true true) (xCB hInt1 gA) := ⟨pe_callTy call_int1 hg hm hv h.pa hn hdb he hpl, h.hK, sx_cb scl_int1 csc_int1 h.sa⟩
theorem xd_callN {x : Str} {p : Pos} {CXT' : CXT} {kk nn : Nat} {fa : Addr} {fd : FuncData} {ps : List Str} {gg : List Dt → O Dt} {mg : Str → Option Value} (F : FnOk X.prog X.w X.K X.mg X.base CXT' kk fa fd ps (spG K mg nn gg)) (hr : Room kk X.A) (hm : X.mg x = some (.ref fa)) (hk : PySem.W.keepIn X.K (.ref fa) = true) (hb : Binds X.K fd ps [])
    (hx : Passes CXT' X E0) (h : XAD X K Δ (e :: es) tA av fr gA) (hg : Gl X x := by rfl) (hdb : (x == ("__debug__" : Str)) = false := by decide) (he : starEach (e :: es) X.env = (false, eval e X.env) :: starEach es X.env := by rfl) (hpl : (backTo pos (starEach es X.env)).any (·.1) = false := by rfl) :
    XD X K Δ (.Call (.Name x p) (e :: es) [] pos) (tCall (spG K mg nn gg) [] E0 tA) (.v true true) (xCallN nn gg gA) := ⟨pe_call F hr hg hm hk hb .nil hx h.pa hdb he hpl, h.hK, sx_callN h.sa⟩
theorem xd_callL {x : Str} {p : Pos} {CXT' : CXT} {kk nn : Nat} {fa : Addr} {fd : FuncData} {ps : List Str} {gg : List Dt → O Dt} {mg : Str → Option Value} (F : FnOk X.prog X.w X.K X.mg X.base CXT' kk fa fd ps (spL K mg nn gg)) (hr : Room kk X.A) (hm : X.mg x = some (.ref fa)) (hk : PySem.W.keepIn X.K (.ref fa) = true) (hb : Binds X.K fd ps [])
    (hx : Passes CXT' X E0) (h : XAD X K Δ (e :: es) tA av fr gA) (hg : Gl X x := by rfl) (hdb : (x == ("__debug__" : Str)) = false := by decide) (he : starEach (e :: es) X.env = (false, eval e X.env) :: starEach es X.env := by rfl) (hpl : (backTo pos (starEach es X.env)).any (·.1) = false := by rfl) :
    XD X K Δ (.Call (.Name x p) (e :: es) [] pos) (tCall (spL K mg nn gg) [] E0 tA) (.new .l true) (xCallN nn gg gA) := ⟨pe_call F hr hg hm hk hb .nil hx h.pa hdb he hpl, h.hK, sx_callL h.sa⟩
theorem xd_callA {x : Str} {p : Pos} {CXT' : CXT} {kk nn : Nat} {fa : Addr} {fd : FuncData} {ps : List Str} {gg : List Dt → O Dt} {mg : Str → Option Value} (F : FnOk X.prog X.w X.K X.mg X.base CXT' kk fa fd ps (spA K mg nn gg)) (hr : Room kk X.A) (hm : X.mg x = some (.ref fa)) (hk : PySem.W.keepIn X.K (.ref fa) = true) (hb : Binds X.K fd ps [])
    (hx : Passes CXT' X E0) (h : XAD X K Δ (e :: es) tA av fr gA) (hg : Gl X x := by rfl) (hdb : (x == ("__debug__" : Str)) = false := by decide) (he : starEach (e :: es) X.env = (false, eval e X.env) :: starEach es X.env := by rfl) (hpl : (backTo pos (starEach es X.env)).any (·.1) = false := by rfl) :
    XD X K Δ (.Call (.Name x p) (e :: es) [] pos) (tCall (spA K mg nn gg) [] E0 tA) (.v av fr) (xCallN nn gg gA) := ⟨pe_call F hr hg hm hk hb .nil hx h.pa hdb he hpl, h.hK, sx_callA h.sa⟩
theorem xd_callM (i : Nat) {ct c' : Ct} {x y : Str} {p py : Pos} {CXT' : CXT} {kk nn : Nat} {fa : Addr} {fd : FuncData} {ps : List Str} {gg : List Dt → O Dt} (F : FnOk X.prog X.w X.K X.mg X.base CXT' kk fa fd ps (spM K ct nn gg)) (hr : Room kk X.A) (hm : X.mg x = some (.ref fa)) (hk : PySem.W.keepIn X.K (.ref fa) = true) (hb : Binds X.K fd ps [])
    (hx : Passes CXT' X E0) (h : XBD X K Δ i es tA gA) (hi : Δ[i]? = some (.own c' fr') := by rfl) (hc : argOf c' = ct := by rfl) (hN : X.N[i]? = some y := by rfl) (hv : Vis X.env.scope y := by first | exact Or.inl rfl | exact Or.inr (Or.inl rfl) | exact Or.inr (Or.inr rfl)) (hd : (y == ("__debug__" : Str)) = false := by decide) (hcd : (y == ("__classdict__" : Str)) = false := by decide)
    (hg : Gl X x := by rfl) (hdb : (x == ("__debug__" : Str)) = false := by decide) (he : starEach (.Name y py :: es) X.env = (false, eval (.Name y py) X.env) :: starEach es X.env := by rfl) (hpl : (backTo pos (starEach es X.env)).any (·.1) = false := by rfl) :
    XD X K Δ (.Call (.Name x p) (.Name y py :: es) [] pos) (tCall (spM K ct nn gg) [] E0 (tCons (tVar i) tA)) (.v true true) (xCallM ct nn gg i gA) := ⟨pe_call F hr hg hm hk hb .nil hx (pa_cons (pe_var hN hv hd hcd) h.pa he) hdb he hpl, h.hK, sx_callM hi hc h.sb⟩
theorem xd_callML (i : Nat) {ct c' : Ct} {x y : Str} {p py : Pos} {CXT' : CXT} {kk nn : Nat} {fa : Addr} {fd : FuncData} {ps : List Str} {gg : List Dt → O Dt} (F : FnOk X.prog X.w X.K X.mg X.base CXT' kk fa fd ps (spML K ct nn gg)) (hr : Room kk X.A) (hm : X.mg x = some (.ref fa)) (hk : PySem.W.keepIn X.K (.ref fa) = true) (hb : Binds X.K fd ps [])
    (hx : Passes CXT' X E0) (h : XBD X K Δ i es tA gA) (hi : Δ[i]? = some (.own c' fr') := by rfl) (hc : argOf c' = ct := by rfl) (hN : X.N[i]? = some y := by rfl) (hv : Vis X.env.scope y := by first | exact Or.inl rfl | exact Or.inr (Or.inl rfl) | exact Or.inr (Or.inr rfl)) (hd : (y == ("__debug__" : Str)) = false := by decide) (hcd : (y == ("__classdict__" : Str)) = false := by decide)
    (hg : Gl X x := by rfl) (hdb : (x == ("__debug__" : Str)) = false := by decide) (he : starEach (.Name y py :: es) X.env = (false, eval (.Name y py) X.env) :: starEach es X.env := by rfl) (hpl : (backTo pos (starEach es X.env)).any (·.1) = false := by rfl) :
    XD X K Δ (.Call (.Name x p) (.Name y py :: es) [] pos) (tCall (spML K ct nn gg) [] E0 (tCons (tVar i) tA)) (.new .l true) (xCallM ct nn gg i gA) := ⟨pe_call F hr hg hm hk hb .nil hx (pa_cons (pe_var hN hv hd hcd) h.pa he) hdb he hpl, h.hK, sx_callML hi hc h.sb⟩
theorem xd_popAt (i : Nat) {x : Str} {p p1 p2 : Pos} (h : XD X K Δ e te (.v av fr') gx) (hk : Δ[i]? = some (.own .l fr) := by rfl) (hv : Vis X.env.scope x := by first | exact Or.inl rfl | exact Or.inr (Or.inl rfl) | exact Or.inr (Or.inr rfl)) (hN : X.N[i]? = some x := by rfl) (hd : (x == ("__debug__" : Str)) = false := by decide) (hcd : (x == ("__classdict__" : Str)) = false := by decide)
    (hbase : attributeBase (.Name x p) "pop" X.env (eval (.Name x p) X.env) = eval (.Name x p) X.env := by rfl)
    (hfew : ((backTo p2 (starEach [e] X.env)).all (fun x => !x.1) && (backToKw p2 (keywordEach [] X.env)).all (fun x => x.1.isSome)
      && decide ([e].length + ([] : List Keyword).length + (if ([] : List Keyword).isEmpty then 0 else 1) < 30)) = true := by rfl)
    (hline : (p1.endLine == p2.line) = true := by rfl) (hst : starEach [e] X.env = (false, eval e X.env) :: starEach [] X.env := by rfl) (hplain : (backTo p2 (starEach [] X.env)).any (·.1) = false := by rfl) :
    XD X K Δ (.Call (.Attribute (.Name x p) "pop" p1) [e] [] p2) (tBM K "list" rPopAt (tVar i) (tCons te tNil)) (.v true fr) (xPop i gx) :=
  ⟨by have q := pe_bm PySem.F.plainAttrs_list PySem.F.slot_list_pop PySem.F.type_list_pop mt_popAt (pe_var hN hv hd hcd) (pa_cons h.pe pa_nil hst) hbase hfew hline hst hplain; rw [h.hK] at q; exact q, h.hK, sx_popAt hk h.sx⟩
theorem xd_lc {n : Nat} {scope : Scope} (own : List (Str × Nat)) {wi : TI} {gg : TG} {sl : List Nat} {hh : Dt → List Dt → O (List Dt)} {TK : Bool → List Kd → List Kd} (hN : X.N.Nodup) (hi : ID X K W0 Δ tg iter wi false fr gI) (ok : blkC X.N X.env.scope scope own = true)
    (hg : ∀ (s : Shared) (H : Hp) (C : Addr) (cl : List (Str × Addr)) (fp : List Addr), GD (X.blk s H scope (compEnvC scope cl C X.env) fp) K n tg gg sl hh TK)
    (ht : ∀ (s : Shared) (H : Hp) (C : Addr) (cl : List (Str × Addr)) (fp : List Addr), TsD (X.blk s H scope (compEnvC scope cl C X.env) fp) K (TK fr Δ) ifs tt gt0)
    (he : ∀ (s : Shared) (H : Hp) (C : Addr) (cl : List (Str × Addr)) (fp : List Addr), XD (X.blk s H scope (compEnvC scope cl C X.env) fp) K (TK fr Δ) elt te (.v true fr') gx)
    (hn : Δ.length = n := by rfl) (hsl : ∀ i ∈ sl, i ∈ own.map (·.2) := by decide) (no : noOwn Δ (own.map (·.2)) = true := by rfl) (hw : wipeK Δ (own.map (·.2)) = Δ := by rfl) (hle : leA (TK fr Δ) Δ = true := by rfl) (hc : X.calm = true := by rfl) (hs : ∀ x, foldedSetIterable iter X.env x = pure x := by intro _; rfl) :
    XD X K Δ (.ListComp elt [⟨tg, iter, ifs, 0⟩] scope pos) (tLc wi gg tt te (own.map (·.2))) (.new .l fr') (xLc (own.map (·.2)) gI hh gt0 gx) :=
  ⟨pe_lc hc hN hi.pi (blkOk_by ok) (fun s H C cl fp => (hg s H C cl fp).pg) (fun s H C cl fp => (ht s H C cl fp).pts) (fun s H C cl fp => (he s H C cl fp).pe) hs, hi.hK,
    sx_lc hi.si (hg X.s_0 X.H_0 0 [] []).gj hn hsl no hw hle (ht X.s_0 X.H_0 0 [] []).st (he X.s_0 X.H_0 0 [] []).sx⟩

/-! statements -/
theorem x_ownA (i : Nat) {x : Str} (hk : Δ[i]? = some (.own .la fr) := by rfl) (hN : X.N[i]? = some x := by rfl) (hv : Vis X.env.scope x := by first | exact Or.inl rfl | exact Or.inr (Or.inl rfl) | exact Or.inr (Or.inr rfl)) (hd : (x == ("__debug__" : Str)) = false := by decide)
    (hcd : (x == ("__classdict__" : Str)) = false := by decide) (hK : X.K = K := by rfl) : PD X K W Δ (.Name x pos) (tVar i) (.o fr) (gVar i) := ⟨pe_var hN hv hd hcd, hK, se_ownA hk⟩
theorem z_setIA (i : Nat) {x : Str} {p : Pos} {ix : Expr} {sp : Pos} (h : PD X K W Δ e te (.v true fr') ge) (h2 : PD X K W Δ ix ti (.v av av') gi) (hk : Δ[i]? = some (.own .la fr) := by rfl) (hv : Vis X.env.scope x := by first | exact Or.inl rfl | exact Or.inr (Or.inl rfl) | exact Or.inr (Or.inr rfl)) (hN : X.N[i]? = some x := by rfl) (hd : (x == ("__debug__" : Str)) = false := by decide) (hcd : (x == ("__classdict__" : Str)) = false := by decide)
    (ha : ∀ v, assign (.Subscript (.Name x p) ix sp) X.env v = (do
      let ov ← holding [v] (eval (.Name x p) X.env)
      let iv ← holding [v, ov] (eval ix X.env)
      standAt sp
      holding [v, ov, iv] (setItem ov iv v)
      release [v, ov, iv] []) := by intro _; rfl) (hs : swapsWithSole [.Subscript (.Name x p) ix sp] e pos.line X.env = pure false := by rfl) (hw : swappedStores [.Subscript (.Name x p) ix sp] e X.env = pure none := by rfl)
    (h1 : (assignEach [.Subscript (.Name x p) ix sp] X.env).map (·.2) = [assign (.Subscript (.Name x p) ix sp) X.env] := by rfl) :
    SD X K W L Δ (Δ.set i (.own .la (fr && fr'))) Δb Δc (.Assign [.Subscript (.Name x p) ix sp] e pos) (tAsg te (gSub (tVar i) ti rSetL)) (gSetI i ge gi) := ⟨ps_asg h.pe (pg_sub (pe_var hN hv hd hcd) h2.pe set_list ha) hs hw h1, h.hK, s_setIA hk h.se h2.se⟩
theorem zx_set (i : Nat) {x : Str} (hN : X.N.Nodup) (h : XD X K Δ e te (.v true fr) gx) (hn : i < Δ.length := by decide) (hi : X.N[i]? = some x := by rfl) (hx : Loc X.env.scope x := by first | exact .inl rfl | exact .inr rfl) (hs : swapsWith e (some (.Name x pos')) pos.line X.env = pure false := by rfl) (hf : X.fn x = true ∨ X.env.scope.names.lookup x = some .local := by first | exact .inl rfl | exact .inr rfl) :
    SD X K W L Δ (Δ.set i (.im fr)) Δb Δc (.Assign [.Name x pos'] e pos) (tAsg te (gName i)) (xSet i gx) := ⟨ps_set hN hi hx h.pe hs hf, h.hK, s_setX hn h.sx⟩
theorem zx_setO (i : Nat) {x : Str} {ct : Ct} (hN : X.N.Nodup) (h : XD X K Δ e te (.new ct fr) gx) (hn : i < Δ.length := by decide) (hct : isArg ct = false := by rfl) (hi : X.N[i]? = some x := by rfl) (hx : Loc X.env.scope x := by first | exact .inl rfl | exact .inr rfl) (hs : swapsWith e (some (.Name x pos')) pos.line X.env = pure false := by rfl) (hf : X.fn x = true ∨ X.env.scope.names.lookup x = some .local := by first | exact .inl rfl | exact .inr rfl) :
    SD X K W L Δ (Δ.set i (.own ct fr)) Δb Δc (.Assign [.Name x pos'] e pos) (tAsg te (gName i)) (xSet i gx) := ⟨ps_set hN hi hx h.pe hs hf, h.hK, s_setOX hn h.sx hct⟩
theorem zx_asg {n : Nat} {gg : TG} {sl : List Nat} {hh : Dt → List Dt → O (List Dt)} {TK : Bool → List Kd → List Kd} (h : XD X K Δ e te (.v true fr) gx) (hg : GD X K n tg gg sl hh TK) (hn : Δ.length = n := by rfl) (hs : swapsWithSole [tg] e pos.line X.env = pure false := by rfl) (hw : swappedStores [tg] e X.env = pure none := by rfl)
    (h1 : (assignEach [tg] X.env).map (·.2) = [assign tg X.env] := by rfl) : SD X K W L Δ (TK fr Δ) Δb Δc (.Assign [tg] e pos) (tAsg te gg) (xAsg gx hh) := ⟨ps_asg h.pe hg.pg hs hw h1, h.hK, s_asgX hn h.sx hg.gj⟩
theorem zx_expr (h : XD X K Δ e te (.v av fr) gx) (hs : swapsWith e none pos.line X.env = pure false := by rfl) : SD X K W L Δ Δ Δb Δc (.Expr e pos) (tDrop te) (xDrop gx) := ⟨ps_expr h.pe hs, h.hK, s_dropX h.sx⟩
theorem zx_if (h : XTD X K Δ c tt gt) (h1 : BD X K W L Δ Δn Δb Δc sts t g1) (h2 : BD X K W L Δ Δn Δb Δc sts2 u g2) : SD X K W L Δ Δn Δb Δc (.If c sts sts2 pos) (tIfS tt t u) (xIfS gt g1 g2) := ⟨ps_if h.pt h1.ps h2.ps, h.hK, s_ifX h.st h1.ss h2.ss⟩
theorem zx_ret (h : XD X K Δ e te (.v av true) gx) : SD X K W .n Δ Δn Δb Δc (.Return (some e) pos) (tRet te) (xRet gx) := ⟨ps_ret h.pe, h.hK, s_retX h.sx⟩
theorem zx_retM {ct : Ct} {fr0 : Bool} (h : XD X K Δ e te (.v true true) gx) (hk : Δ[0]? = some (.own ct fr0) := by rfl) (hc : isArg ct = true := by rfl) : SD X K W .m Δ Δn Δb Δc (.Return (some e) pos) (tRet te) (xRetM gx) := ⟨ps_ret h.pe, h.hK, s_retM hk hc h.sx⟩
theorem zx_retML {ct : Ct} {fr0 : Bool} (h : XD X K Δ e te (.new .l true) gx) (hk : Δ[0]? = some (.own ct fr0) := by rfl) (hc : isArg ct = true := by rfl) : SD X K W .ml Δ Δn Δb Δc (.Return (some e) pos) (tRet te) (xRetM gx) := ⟨ps_ret h.pe, h.hK, s_retML hk hc h.sx⟩
theorem zx_retMO (i : Nat) {ct : Ct} {fr0 : Bool} {x : Str} {p : Pos} (hi : Δ[i]? = some (.own .l true) := by rfl) (hk : Δ[0]? = some (.own ct fr0) := by rfl) (hc : isArg ct = true := by rfl) (hN : X.N[i]? = some x := by rfl) (hv : Vis X.env.scope x := by first | exact Or.inl rfl | exact Or.inr (Or.inl rfl) | exact Or.inr (Or.inr rfl)) (hd : (x == ("__debug__" : Str)) = false := by decide)
    (hcd : (x == ("__classdict__" : Str)) = false := by decide) (hK : X.K = K := by rfl) : SD X K W .ml Δ Δn Δb Δc (.Return (some (.Name x p)) pos) (tRet (tVar i)) (xRetMO i) := ⟨ps_ret (pe_var hN hv hd hcd), hK, s_retMO hk hc hi⟩
theorem zx_app (i : Nat) {x : Str} {p p1 p2 : Pos} (h : XD X K Δ e te (.v true fr') gx) (hk : Δ[i]? = some (.own .l fr) := by rfl) (hv : Vis X.env.scope x := by first | exact Or.inl rfl | exact Or.inr (Or.inl rfl) | exact Or.inr (Or.inr rfl)) (hN : X.N[i]? = some x := by rfl) (hd : (x == ("__debug__" : Str)) = false := by decide) (hcd : (x == ("__classdict__" : Str)) = false := by decide)
    (hbase : attributeBase (.Name x p) "append" X.env (eval (.Name x p) X.env) = eval (.Name x p) X.env := by rfl)
    (hfew : ((backTo p2 (starEach [e] X.env)).all (fun x => !x.1) && (backToKw p2 (keywordEach [] X.env)).all (fun x => x.1.isSome)
      && decide ([e].length + ([] : List Keyword).length + (if ([] : List Keyword).isEmpty then 0 else 1) < 30)) = true := by rfl)
    (hline : (p1.endLine == p2.line) = true := by rfl) (hst : starEach [e] X.env = (false, eval e X.env) :: starEach [] X.env := by rfl) (hplain : (backTo p2 (starEach [] X.env)).any (·.1) = false := by rfl)
    (hs : swapsWith (.Call (.Attribute (.Name x p) "append" p1) [e] [] p2) none pos.line X.env = pure false := by rfl) :
    SD X K W L Δ (Δ.set i (.own .l (fr && fr'))) Δb Δc (.Expr (.Call (.Attribute (.Name x p) "append" p1) [e] [] p2) pos) (tDrop (tBM K "list" rAppend (tVar i) (tCons te tNil))) (xApp i gx) :=
  ⟨by have q := ps_expr (pos := pos) (pe_bm PySem.F.plainAttrs_list PySem.F.slot_list_append PySem.F.type_list_append mt_append (pe_var hN hv hd hcd) (pa_cons h.pe pa_nil hst) hbase hfew hline hst hplain) hs; rw [h.hK] at q; exact q, h.hK, s_appX hk h.sx⟩
theorem zx_for1 {n : Nat} {gg : TG} {sl : List Nat} {hh : Dt → List Dt → O (List Dt)} {TK : Bool → List Kd → List Kd} {p : Pos} (hp : PassesOwn (model X.prog X.w) X.A X.env X.xe) (hm : X.mg "range" = none) (h : XAD X K Δ [a] tA av fr gA) (hg : GD X K n tg gg sl hh TK) (hb : BD X K W L (TK true Δ) Δ Δ Δ sts t g1) (hn : Δ.length = n := by rfl) (hc : X.calm = true := by rfl)
    (hgl : Gl X "range" := by rfl) (hst : starEach [a] X.env = [(false, eval a X.env)] := by rfl) (hs : ∀ x, foldedSetIterable (.Call (.Name "range" p) [a] [] pos') X.env x = pure x := by intro _; rfl) : SD X K W L Δ Δ Δb Δc (.For tg (.Call (.Name "range" p) [a] [] pos') sts [] pos) (tFor (iRng1 tA) gg t) (xFor (xRng1 gA) hh g1) :=
  ⟨ps_for hp hc (pi_range1 hgl hm h.pa hst) hg.pg hb.ps hs, h.hK, s_forX hn h.sa hg.gj hb.ss⟩
end
/-! ### plain -/
theorem bx_ok {α β : Type} (a : α) (f : α → O β) : bx (.ok a) f = f a := rfl
theorem xP_def (g : Gd) (ρ : List Dt) : xP g ρ = bnd (g ρ) fun d => .ok (d, ρ) := rfl
theorem xPT_def (g : List Dt → O Bool) (ρ : List Dt) : xPT g ρ = bnd (g ρ) fun d => .ok (d, ρ) := rfl
theorem xPA_def (g : List Dt → O (List Dt)) (ρ : List Dt) : xPA g ρ = bnd (g ρ) fun d => .ok (d, ρ) := rfl
theorem xOp_def (h : Dt → Dt → O Dt) (a b : Gx) (ρ : List Dt) : xOp h a b ρ = bnd (a ρ) fun x => bnd (b x.2) fun y => bnd (h x.1 y.1) fun z => .ok (z, y.2) := rfl
theorem xNil_def (ρ : List Dt) : xNil ρ = .ok ([], ρ) := rfl
theorem xCons_def (a : Gx) (b : List Dt → O (List Dt × List Dt)) (ρ : List Dt) : xCons a b ρ = bnd (a ρ) fun x => bnd (b x.2) fun y => .ok (x.1 :: y.1, y.2) := rfl
theorem xCB_def (h : List Dt → O Dt) (a : List Dt → O (List Dt × List Dt)) (ρ : List Dt) : xCB h a ρ = bnd (a ρ) fun x => bnd (h x.1) fun z => .ok (z, x.2) := rfl
theorem xTest_def (a : Gx) (ρ : List Dt) : xTest a ρ = bnd (a ρ) fun x => bnd (asB x.1) fun b => .ok (b, x.2) := rfl
theorem xNot_def (t : List Dt → O (Bool × List Dt)) (ρ : List Dt) : xNot t ρ = bnd (t ρ) fun x => .ok (!x.1, x.2) := rfl
theorem xAnd_def (t u : List Dt → O (Bool × List Dt)) (ρ : List Dt) : xAnd t u ρ = bnd (t ρ) fun x => if x.1 then u x.2 else .ok (false, x.2) := rfl
theorem xOr_def (t u : List Dt → O (Bool × List Dt)) (ρ : List Dt) : xOr t u ρ = bnd (t ρ) fun x => if x.1 then .ok (true, x.2) else u x.2 := rfl
theorem xSet_def (i : Nat) (g : Gx) (ρ : List Dt) : xSet i g ρ = bx (g ρ) fun x => .ok (.nx (x.2.set i x.1)) := rfl
theorem xIfS_def (t : List Dt → O (Bool × List Dt)) (a b : Gs) (ρ : List Dt) : xIfS t a b ρ = bx (t ρ) fun x => if x.1 then a x.2 else b x.2 := rfl
theorem xIf_t {t : List Dt → O (Bool × List Dt)} {a b : Gs} {ρ ρ' : List Dt} (h : t ρ = .ok (true, ρ')) : xIfS t a b ρ = a ρ' := by unfold xIfS; rw [h]; rfl
theorem xIf_f {t : List Dt → O (Bool × List Dt)} {a b : Gs} {ρ ρ' : List Dt} (h : t ρ = .ok (false, ρ')) : xIfS t a b ρ = b ρ' := by unfold xIfS; rw [h]; rfl
theorem xset_ok {i : Nat} {g : Gx} {ρ ρ' : List Dt} {d : Dt} (h : g ρ = .ok (d, ρ')) : xSet i g ρ = .ok (.nx (ρ'.set i d)) := by unfold xSet; rw [h]; rfl
theorem xasg_ok {g : Gx} {h : Dt → List Dt → O (List Dt)} {ρ ρ1 ρ2 : List Dt} {d : Dt} (h1 : g ρ = .ok (d, ρ1)) (h2 : h d ρ1 = .ok ρ2) : xAsg g h ρ = .ok (.nx ρ2) := by
  unfold xAsg
  rw [h1, bx_ok, h2]
theorem xret_ok {g : Gx} {ρ ρ' : List Dt} {d e : Dt} (h : g ρ = .ok (d, ρ')) (h2 : ρ'[0]? = some e) (h3 : argD e = true) : xRetM g ρ = .ok (.rt (.tuple [d, e])) := by
  unfold xRetM
  rw [h, bx_ok]
  simp only [h2, h3, if_true]
theorem xretO_ok {i : Nat} {ρ : List Dt} {d e : Dt} (h : ρ[i]? = some d) (h2 : ρ[0]? = some e) (h3 : argD e = true) : xRetMO i ρ = .ok (.rt (.tuple [d, e])) := by
  unfold xRetMO
  simp only [h, h2, h3, if_true]
theorem xapp_ok {i : Nat} {g : Gx} {ρ ρ' ds : List Dt} {d : Dt} (h : g ρ = .ok (d, ρ')) (h1 : ρ'[i]? = some (.list ds)) (h3 : ds.length < 100000) : xApp i g ρ = .ok (.nx (ρ'.set i (.list (ds ++ [d])))) := by
  unfold xApp
  rw [h, bx_ok]
  simp only [h1, if_pos h3]
theorem xdrop_ok {g : Gx} {ρ ρ' : List Dt} {d : Dt} (h : g ρ = .ok (d, ρ')) : xDrop g ρ = .ok (.nx ρ') := by unfold xDrop; rw [h]; rfl
theorem xcallM_ok {c : Ct} {n : Nat} {g : List Dt → O Dt} {i : Nat} {gA : List Dt → O (List Dt × List Dt)} {ρ ρ' ds : List Dt} {a r e : Dt} (h1 : gA ρ = .ok (ds, ρ')) (h2 : ds.length + 1 = n) (h3 : ρ'[i]? = some a) (h4 : argK c a = true) (h5 : g (a :: ds) = .ok (.tuple [r, e])) (h6 : argK c e = true) :
    xCallM c n g i gA ρ = .ok (r, ρ'.set i e) := by
  unfold xCallM
  rw [h1, bnd_ok]
  simp only [h2, h3, h4, h5, h6, if_true]
theorem xcallN_ok {n : Nat} {g : List Dt → O Dt} {gA : List Dt → O (List Dt × List Dt)} {ρ ρ' ds : List Dt} {d : Dt} (h1 : gA ρ = .ok (ds, ρ')) (h2 : ds.length = n) (h3 : g ds = .ok d) : xCallN n g gA ρ = .ok (d, ρ') := by
  unfold xCallN
  rw [h1, bnd_ok]
  simp only [h2, h3, if_true]
theorem xfor_ok {gi : List Dt → O (List Dt × List Dt)} {h : Dt → List Dt → O (List Dt)} {b : Gs} {ρ ρ' ds : List Dt} {z : O Fl} (h1 : gi ρ = .ok (ds, ρ')) (h2 : forE h b ds ρ' = z) : xFor gi h b ρ = z := by unfold xFor; rw [h1, bx_ok, h2]
theorem xrng1_ok {g : List Dt → O (List Dt × List Dt)} {ρ ρ' : List Dt} {j : Int} (h : g ρ = .ok ([.int j], ρ')) (h1 : -4611686018427387904 ≤ j) (h2 : j < 4611686018427387904) : xRng1 g ρ = .ok (rangeD 0 j, ρ') := by
  unfold xRng1
  rw [h, bx_ok]
  unfold rng1
  simp only
  rw [if_pos (by constructor <;> omega)]
theorem sclA_ints : ∀ xs : List Int, sclA (xs.map .int) = true
  | [] => rfl
  | x :: xs => by rw [List.map_cons]; unfold sclA; rw [sclA_ints xs]; rfl
end Sim
end T_SimO

section T_SimQ
set_option Elab.async false
set_option linter.all false
set_option maxRecDepth 100000
/-! SimQ: products of great ints, range with a positive step, a new list changed by a def and let go. -/
namespace Sim
open PySem PySem.Spec L2
open PyProof.Rows hiding St

/-! ### products of great ints -/
def cMulW (i j : Int) : Bool := decide (i.natAbs.log2 + j.natAbs.log2 < 1000000)
def hMulW := hI cMulW fun i j => i * j
theorem cMulW_ok {i j : Int} (h : cMulW i j = true) : CMulW i j := by
  unfold cMulW at h
  exact (of_decide_eq_true h : i.natAbs.log2 + j.natAbs.log2 < 1000000)
theorem x_mulW {X : Cx} {K : PySem.W.Frag} {W : Wt} {Δ : List Kd} {a b : Expr} {ta tb : TE} {ga gb : Gd} {av fr av' fr' : Bool} {pos : Pos} (ha : PD X K W Δ a ta (.v av fr) ga) (hb : PD X K W Δ b tb (.v av' fr') gb) : PD X K W Δ (.BinOp a .Mult b pos) (tOp (rI CMulW fun i j => .int (i * j)) ta tb) (.v true true) (gOp hMulW ga gb) := ⟨pe_op op_mulW ha.pe hb.pe, ha.hK, se_op scl_I (osc_I fun _ _ => cMulW_ok) ha.se hb.se⟩
theorem hMulW_i {i j : Int} (h : i.natAbs.log2 + j.natAbs.log2 < 1000000) : hMulW (.int i) (.int j) = .ok (.int (i * j)) := by
  show (if cMulW i j then O.ok (PyData.int (i * j)) else .bad) = _
  rw [if_pos]
  exact decide_eq_true h

/-! ### range(i, j, c) -/
def rng3p : List Dt → Option (Int × Int × Nat)
  | [.int i, .int j, .int c] => if c ≠ 0 ∧ c.natAbs < 1073741824 ∧ Builtin.Range.small i j c = true ∧ Builtin.Range.rangeSize i j c = ((Builtin.Range.rangeSize i j c).toNat : Int) then some (i, c, (Builtin.Range.rangeSize i j c).toNat) else none
  | _ => none
theorem rng3p_inv {ds : List Dt} {p : Int × Int × Nat} (h : rng3p ds = some p) : ∃ j, ds = [.int p.1, .int j, .int p.2.1] ∧ RgC p.1 j p.2.1 p.2.2 := by
  unfold rng3p at h
  split at h
  · split at h
    · rename_i c
      cases h
      exact ⟨_, rfl, c.1, c.2.1, c.2.2.1, c.2.2.2⟩
    · cases h
  · cases h
def stepD (i c : Int) (n : Nat) : List Dt := (List.range n).map fun (k : Nat) => .int (i + (k : Int) * c)
def gRng3p (g : List Dt → O (List Dt)) : List Dt → O (List Dt) := fun ρ => bnd (g ρ) fun ds => match rng3p ds with
  | some p => .ok (stepD p.1 p.2.1 p.2.2)
  | none => .bad
section
variable {K : PySem.W.Frag} {W : Wt} {Δ : List Kd}
theorem stepD_len (i c : Int) (n : Nat) : (stepD i c n).length = n := by unfold stepD; simp
theorem sc_step {i c : Int} {n : Nat} : Sc K (Itc i c n) none [] [] (stepD i c n) where
  goes := fun k H hi' _ => by rw [stepD_len] at hi'; exact hi'
  stops := fun H _ => by rw [stepD_len]; exact Nat.le_refl _
  yields := fun k H x H' hi' _ y => by
    obtain ⟨e, y⟩ := y
    subst e y
    refine ⟨Same.refl _, fun F r => ⟨_, ?_, .int _⟩⟩
    rw [stepD_len] at hi'
    unfold stepD
    rw [List.getElem?_map, List.getElem?_range hi']
    rfl
theorem si_rng3p {tA : TA} {gA : List Dt → O (List Dt)} {av fr : Bool} (h : SA K W Δ tA av fr gA) : SI K W Δ (iRng3 tA) false true (gRng3p gA) := fun f ρ σ H Rk R q => by
  refine h f ρ σ H _ R ?_
  unfold gRng3p at q
  cases e1 : gA ρ with
  | bad => rw [e1] at q; exact q
  | ex z => rw [e1] at q; exact q
  | ok ds =>
    rw [e1, bnd_ok] at q
    intro vs H1 s1 x1
    cases er : rng3p ds with
    | none => rw [er] at q; exact q.elim
    | some p =>
      rw [er] at q
      obtain ⟨j, e, hc⟩ := rng3p_inv er
      subst e
      cases x1 with
      | cons x1 xr =>
        cases xr with
        | cons x2 xr =>
          cases xr with
          | cons x3 xr =>
            cases xr
            rw [rpInt x1, rpInt x2, rpInt x3]
            exact ⟨p.1, j, p.2.1, p.2.2, rfl, hc, q _ H1 none [] [] s1 (fun _ => rfl) (fun _ e => nomatch e) .nil sc_step⟩
theorem i_rng3p {X : Cx} {tg a b c : Expr} {tA : TA} {gA : List Dt → O (List Dt)} {av fr : Bool} {pos p : Pos} (hm : X.mg "range" = none) (h : AD X K W Δ [a, b, c] tA av fr gA) (hg : Gl X "range" := by rfl)
    (hs : starEach [a, b, c] X.env = (false, eval a X.env) :: starEach [b, c] X.env := by rfl) (hpl : (backTo pos (starEach [b, c] X.env)).any (·.1) = false := by rfl) : ID X K W Δ tg (.Call (.Name "range" p) [a, b, c] [] pos) (iRng3 tA) false true (gRng3p gA) := ⟨pi_range3 hg hm h.pa hs hpl, h.hK, si_rng3p h.sa⟩
end

/-! ### a new list handed to a def that changes it -/
def gCallT (c : Ct) (n : Nat) (g : List Dt → O Dt) (ga : Gd) (gA : List Dt → O (List Dt)) : Gd := fun ρ => bnd (ga ρ) fun a => bnd (gA ρ) fun ds => if ds.length + 1 = n ∧ argK c a = true then (match g (a :: ds) with
  | .ok (.tuple [r, _]) => .ok r
  | _ => .bad) else .bad
section
variable {K : PySem.W.Frag} {W : Wt} {Δ : List Kd} {ta : TE} {tA : TA} {ga : Gd} {gA : List Dt → O (List Dt)} {fr fr' : Bool} {n : Nat} {g : List Dt → O Dt}
theorem se_callT (ha : SE K W Δ ta (.new .l fr) ga) (hr : SA K W Δ tA true fr' gA) : SE K W Δ (tCall (spM K .la n g) [] E0 (tCons ta tA)) (.v true true) (gCallT .la n g ga gA) := fun f ρ σ H Q r q => by
  refine ha f ρ σ H _ r ?_
  unfold gCallT at q
  cases e1 : ga ρ with
  | bad => rw [e1] at q; exact q
  | ex z => rw [e1] at q; exact q
  | ok a =>
    rw [e1, bnd_ok] at q
    intro p H1 np s1 x1
    have rp := r.pinNew np s1 x1.mutb
    refine hr _ ρ σ H1 _ rp ?_
    cases e2 : gA ρ with
    | bad => rw [e2] at q; exact q
    | ex z => rw [e2] at q; exact fun H' s => q H' (s1.trans s)
    | ok ds =>
      rw [e2, bnd_ok] at q
      intro vs H2 s2 x2
      by_cases hn : ds.length + 1 = n ∧ argK .la a = true
      · rw [if_pos hn] at q
        rw [List.append_nil]
        have harg : ArgAt K H2 p a := argAt_of (c' := .l) rfl (x1.map (fun o e => s2 _ _ e) fun _ _ y => y.same s2) hn.2
        refine ⟨p, vs, a, ds, rfl, by rw [List.length_cons, x2.length]; exact hn.1, hn.2, harg, x2.weak fun b fb z => (fb.1 rfl).2 (z ▸ List.mem_cons_self), ?_⟩
        cases e3 : g (a :: ds) with
        | bad => rw [e3] at q; exact q.elim
        | ex z => rw [e3] at q; exact q.elim
        | ok z =>
          rw [e3] at q
          split at q
          · rename_i r' e ez
            cases ez
            intro v H' keep arg x
            have sH : Same H H' := fun b o eb => keep b o (fun z => by rw [z, np] at eb; cases eb) (s2 _ _ (s1 _ _ eb))
            refine q v H' sH (x.weak fun b nb => ?_)
            obtain ⟨f1, f2, f3⟩ := r.fresh ((s1.trans s2).free nb)
            exact ⟨fun _ => ⟨f1, f2⟩, fun _ => r.g0 b f3⟩
          · exact q.elim
      · rw [if_neg hn] at q
        exact q.elim
theorem se_callTL (ha : SE K W Δ ta (.new .l fr) ga) (hr : SA K W Δ tA true fr' gA) : SE K W Δ (tCall (spML K .la n g) [] E0 (tCons ta tA)) (.new .l true) (gCallT .la n g ga gA) := fun f ρ σ H Q r q => by
  refine ha f ρ σ H _ r ?_
  unfold gCallT at q
  cases e1 : ga ρ with
  | bad => rw [e1] at q; exact q
  | ex z => rw [e1] at q; exact q
  | ok a =>
    rw [e1, bnd_ok] at q
    intro p H1 np s1 x1
    have rp := r.pinNew np s1 x1.mutb
    refine hr _ ρ σ H1 _ rp ?_
    cases e2 : gA ρ with
    | bad => rw [e2] at q; exact q
    | ex z => rw [e2] at q; exact fun H' s => q H' (s1.trans s)
    | ok ds =>
      rw [e2, bnd_ok] at q
      intro vs H2 s2 x2
      by_cases hn : ds.length + 1 = n ∧ argK .la a = true
      · rw [if_pos hn] at q
        rw [List.append_nil]
        have harg : ArgAt K H2 p a := argAt_of (c' := .l) rfl (x1.map (fun o e => s2 _ _ e) fun _ _ y => y.same s2) hn.2
        refine ⟨p, vs, a, ds, rfl, by rw [List.length_cons, x2.length]; exact hn.1, hn.2, harg, x2.weak fun b fb z => (fb.1 rfl).2 (z ▸ List.mem_cons_self), ?_⟩
        cases e3 : g (a :: ds) with
        | bad => rw [e3] at q; exact q.elim
        | ex z => rw [e3] at q; exact q.elim
        | ok z =>
          rw [e3] at q
          split at q
          · rename_i r' e ez
            cases ez
            intro l H' nlp nl keep arg x
            have sH : Same H H' := fun b o eb => keep b o (fun z => by rw [z, np] at eb; cases eb) (s2 _ _ (s1 _ _ eb))
            refine q l H' ((s1.trans s2).free nl) sH (x.map (fun _ e => e) fun _ _ y => y.weak fun b nb => ?_)
            obtain ⟨f1, f2, f3⟩ := r.fresh ((s1.trans s2).free nb.1)
            exact ⟨⟨fun _ => ⟨f1, f2⟩, fun _ => r.g0 b f3⟩, nb.2⟩
          · exact q.elim
      · rw [if_neg hn] at q
        exact q.elim
end
section
variable {X : Cx} {K : PySem.W.Frag} {W : Wt} {Δ : List Kd} {e : Expr} {es : List Expr} {ta : TE} {tA : TA} {ga : Gd} {gA : List Dt → O (List Dt)} {fr fr' : Bool} {pos : Pos}
theorem x_callT {x : Str} {p : Pos} {CXT' : CXT} {kk nn : Nat} {fa : Addr} {fd : FuncData} {ps : List Str} {gg : List Dt → O Dt} (F : FnOk X.prog X.w X.K X.mg X.base CXT' kk fa fd ps (spM K .la nn gg)) (hr : Room kk X.A) (hm : X.mg x = some (.ref fa)) (hk : PySem.W.keepIn X.K (.ref fa) = true) (hb : Binds X.K fd ps [])
    (hx : Passes CXT' X E0) (ha : PD X K W Δ e ta (.new .l fr) ga) (h : AD X K W Δ es tA true fr' gA) (hg : Gl X x := by rfl) (hdb : (x == ("__debug__" : Str)) = false := by decide) (he : starEach (e :: es) X.env = (false, eval e X.env) :: starEach es X.env := by rfl) (hpl : (backTo pos (starEach es X.env)).any (·.1) = false := by rfl) :
    PD X K W Δ (.Call (.Name x p) (e :: es) [] pos) (tCall (spM K .la nn gg) [] E0 (tCons ta tA)) (.v true true) (gCallT .la nn gg ga gA) := ⟨pe_call F hr hg hm hk hb .nil hx (pa_cons ha.pe h.pa he) hdb he hpl, h.hK, se_callT ha.se h.sa⟩
theorem x_callTL {x : Str} {p : Pos} {CXT' : CXT} {kk nn : Nat} {fa : Addr} {fd : FuncData} {ps : List Str} {gg : List Dt → O Dt} (F : FnOk X.prog X.w X.K X.mg X.base CXT' kk fa fd ps (spML K .la nn gg)) (hr : Room kk X.A) (hm : X.mg x = some (.ref fa)) (hk : PySem.W.keepIn X.K (.ref fa) = true) (hb : Binds X.K fd ps [])
    (hx : Passes CXT' X E0) (ha : PD X K W Δ e ta (.new .l fr) ga) (h : AD X K W Δ es tA true fr' gA) (hg : Gl X x := by rfl) (hdb : (x == ("__debug__" : Str)) = false := by decide) (he : starEach (e :: es) X.env = (false, eval e X.env) :: starEach es X.env := by rfl) (hpl : (backTo pos (starEach es X.env)).any (·.1) = false := by rfl) :
    PD X K W Δ (.Call (.Name x p) (e :: es) [] pos) (tCall (spML K .la nn gg) [] E0 (tCons ta tA)) (.new .l true) (gCallT .la nn gg ga gA) := ⟨pe_call F hr hg hm hk hb .nil hx (pa_cons ha.pe h.pa he) hdb he hpl, h.hK, se_callTL ha.se h.sa⟩
end
theorem callT_ok {c : Ct} {n : Nat} {g : List Dt → O Dt} {ga : Gd} {gA : List Dt → O (List Dt)} {ρ ds : List Dt} {a r e : Dt} (h1 : ga ρ = .ok a) (h2 : gA ρ = .ok ds) (h3 : ds.length + 1 = n) (h4 : argK c a = true) (h5 : g (a :: ds) = .ok (.tuple [r, e])) : gCallT c n g ga gA ρ = .ok r := by
  unfold gCallT
  rw [h1, bnd_ok, h2, bnd_ok, if_pos ⟨h3, h4⟩, h5]
end Sim
end T_SimQ

section T_SimR
set_option Elab.async false
set_option linter.all false
set_option maxRecDepth 100000
/-! SimR: xs.remove(k), chains of three comparisons. -/
namespace Sim
open PySem PySem.Spec L2
open PyProof.Rows hiding St

/-! ### xs.remove(k) -/
def gRem (i : Nat) (g : Gd) : Gs := fun ρ => match ρ[i]? with
  | some (.list ds) => bnd (g ρ) fun d => (match allI ds, d with
    | some ns, .int k => if k ∈ ns then .ok (.nx (ρ.set i (.list ((ns.eraseIdx (ns.idxOf k)).map .int)))) else .bad
    | _, _ => .bad)
  | _ => .bad
theorem idxOf_get {k : Int} : ∀ {ns : List Int}, k ∈ ns → ns[ns.idxOf k]? = some k ∧ ∀ m : Nat, m < ns.idxOf k → ns[m]? ≠ some k
  | n :: ns, h => by
    by_cases e : n = k
    · subst e
      rw [List.idxOf_cons_self]
      exact ⟨rfl, fun m hm => absurd hm (Nat.not_lt_zero _)⟩
    · have e' : (n == k) = false := beq_eq_false_iff_ne.mpr e
      rw [List.idxOf_cons, e', cond_false]
      obtain ⟨h1, h2⟩ := idxOf_get (ns := ns) ((List.mem_cons.mp h).resolve_left fun z => e z.symm)
      refine ⟨h1, fun m hm => ?_⟩
      cases m with
      | zero => exact fun z => e (Option.some.inj z)
      | succ m => exact h2 m (by omega)
theorem rpA_intsOf {K : PySem.W.Frag} {F : Addr → Prop} {H : Hp} : ∀ ns : List Int, RpA K F H (ns.map V.int) (ns.map .int)
  | [] => .nil
  | n :: ns => .cons (.int n) (rpA_intsOf ns)
section
variable {K : PySem.W.Frag} {W : Wt} {L : Lk} {Δ Δb Δc : List Kd} {te : TE} {g : Gd} {fr av fr' : Bool} {i : Nat}
theorem s_rem (hk : Δ[i]? = some (.own .l fr)) (h : SE K W Δ te (.v av fr') g) : SS K W L Δ (Δ.set i (.own .l true)) Δb Δc (tDrop (tBM K "list" rRemI (tVar i) (tCons te tNil))) (gRem i g) := fun f ρ σ H E r q => by
  obtain ⟨p, d, h1, h2, h3, vs, ds, ed, h4, h5⟩ := r.ow i .l fr hk
  subst ed
  unfold gRem at q
  rw [h2] at q
  simp only at q
  refine ⟨_, h1, .inl ⟨rfl, _, .inl (.inl h4)⟩, h f ρ σ H _ r ?_⟩
  cases e : g ρ with
  | bad => rw [e] at q; exact q
  | ex z => rw [e] at q; exact fun H' s => q σ H' (r.ext.trans s)
  | ok d =>
    rw [e, bnd_ok] at q
    intro v H1 s x
    cases ea : allI ds with
    | none => rw [ea] at q; exact q.elim
    | some ns =>
      rw [ea] at q
      cases d with
      | int k =>
        simp only at q
        by_cases hm : k ∈ ns
        · rw [if_pos hm] at q
          have hp := s _ _ h4
          have ev := rp_ints h5 ea
          obtain ⟨g1, g2⟩ := idxOf_get hm
          rw [rpInt x]
          subst ev
          refine ⟨p, ns, k, ns.idxOf k, rfl, rfl, hp, g1, g2, q σ _ ?_⟩
          exact (r.mono s).updOwn hk h1 (c' := .l) (show Mutb (.lst _) from trivial) ⟨_, _, rfl, upd_same, rpA_intsOf _⟩
        · rw [if_neg hm] at q
          exact q.elim
      | _ => exact q.elim
end
section
variable {X : Cx} {K : PySem.W.Frag} {W : Wt} {Δ Δb Δc : List Kd} {e : Expr} {te : TE} {g : Gd} {av fr fr' : Bool} {L : Lk} {pos : Pos}
theorem z_rem (i : Nat) {x : Str} {p p1 p2 : Pos} (h : PD X K W Δ e te (.v av fr') g) (hk : Δ[i]? = some (.own .l fr) := by rfl) (hv : Vis X.env.scope x := by first | exact Or.inl rfl | exact Or.inr (Or.inl rfl) | exact Or.inr (Or.inr rfl)) (hN : X.N[i]? = some x := by rfl) (hd : (x == ("__debug__" : Str)) = false := by decide) (hcd : (x == ("__classdict__" : Str)) = false := by decide)
    (hbase : attributeBase (.Name x p) "remove" X.env (eval (.Name x p) X.env) = eval (.Name x p) X.env := by rfl)
    (hfew : ((backTo p2 (starEach [e] X.env)).all (fun x => !x.1) && (backToKw p2 (keywordEach [] X.env)).all (fun x => x.1.isSome)
      && decide ([e].length + ([] : List Keyword).length + (if ([] : List Keyword).isEmpty then 0 else 1) < 30)) = true := by rfl)
    (hline : (p1.endLine == p2.line) = true := by rfl) (hst : starEach [e] X.env = (false, eval e X.env) :: starEach [] X.env := by rfl) (hplain : (backTo p2 (starEach [] X.env)).any (·.1) = false := by rfl)
    (hs : swapsWith (.Call (.Attribute (.Name x p) "remove" p1) [e] [] p2) none pos.line X.env = pure false := by rfl) :
    SD X K W L Δ (Δ.set i (.own .l true)) Δb Δc (.Expr (.Call (.Attribute (.Name x p) "remove" p1) [e] [] p2) pos) (tDrop (tBM K "list" rRemI (tVar i) (tCons te tNil))) (gRem i g) :=
  ⟨by have q := ps_expr (pos := pos) (pe_bm PySem.F.plainAttrs_list PySem.F.slot_list_remove PySem.F.type_list_remove mt_remove (pe_var hN hv hd hcd) (pa_cons h.pe pa_nil hst) hbase hfew hline hst hplain) hs; rw [h.hK] at q; exact q, h.hK, s_rem hk h.se⟩
end
theorem rem_ok {i : Nat} {g : Gd} {ρ : List Dt} {ns : List Int} {k : Int} (h1 : ρ[i]? = some (.list (ns.map .int))) (h2 : g ρ = .ok (.int k)) (h3 : k ∈ ns) : gRem i g ρ = .ok (.nx (ρ.set i (.list ((ns.eraseIdx (ns.idxOf k)).map .int)))) := by
  unfold gRem
  rw [h1]
  simp only [h2, bnd_ok, allI_map, if_pos h3]

/-! ### chains of three comparisons -/
def tChain3 (r1 r2 r3 : R2) (ta tb tc td : TE) : TE := fun σ H Q => ta σ H fun x H1 => tb σ H1 fun y H2 => r1 x y H2 fun z H3 => ∃ k, z = .bl k ∧ (if k = true then tc σ H3 fun u H4 => r2 y u H4 fun z2 H5 => ∃ k2, z2 = .bl k2 ∧ (if k2 = true then td σ H5 fun w H6 => r3 u w H6 Q else Q (.bl false) H5) else Q (.bl false) H3)
theorem pe_chain3 {X : Cx} {a b c d : Expr} {ta tb tc td : TE} {pos : Pos} {op op' op'' : CmpOp} {r r' r'' : R2} (ho : OpR X (compareOp op) r) (ho' : OpR X (compareOp op') r') (ho'' : OpR X (compareOp op'') r'') (ha : PE X a ta) (hb : PE X b tb) (hc : PE X c tc) (hd : PE X d td) (hm : lastMarks [op, op', op''] [b, c, d] = false := by with_unfolding_all rfl) :
    PE X (.Compare a [op, op', op''] [b, c, d] pos) (tChain3 r r' r'' ta tb tc td) where
  run := fun pins s σ H Q I h => PyProof.Rows.Compare_chain (thn (ha.run pins s σ H _ I h) fun v s1 ⟨x, H1, I1, r1, q1⟩ =>
    PyProof.Rows.chain_link (thn (hb.run pins s1 σ H1 _ I1 q1) fun u s2 ⟨y, H2, I2, r2, q2⟩ =>
      thn (ho pins s2 σ H2 x y v u _ I2 r1 r2 q2) fun d1 s3 ⟨z, H3, I3, r3, k, e, q3⟩ => by
        subst e
        cases r3
        refine wpAny_truthy_bool ?_
        cases k with
        | false => exact PyProof.Rows.ite_ff ⟨.bl false, H3, I3, rfl, q3⟩
        | true =>
          refine PyProof.Rows.ite_tt ?_
          rw [if_pos rfl] at q3
          exact PyProof.Rows.chain_link (thn (hc.run pins s3 σ H3 _ I3 q3) fun u' s4 ⟨y', H4, I4, r4, q4⟩ =>
            thn (ho' pins s4 σ H4 y y' u u' _ I4 r2 r4 q4) fun d2 s5 ⟨z2, H5, I5, r5, k2, e2, q5⟩ => by
              subst e2
              cases r5
              refine wpAny_truthy_bool ?_
              cases k2 with
              | false => exact PyProof.Rows.ite_ff ⟨.bl false, H5, I5, rfl, q5⟩
              | true =>
                refine PyProof.Rows.ite_tt ?_
                rw [if_pos rfl] at q5
                exact PyProof.Rows.chain_last (thn (hd.run pins s5 σ H5 _ I5 q5) fun w' s6 ⟨z', H6, I6, r6, q6⟩ => ho'' pins s6 σ H6 y' z' u' w' Q I6 r4 r6 q6)))) hm
def gChain3 (h h' h'' : Dt → Dt → O Dt) (ga gb gc gd : Gd) : Gd := fun ρ => bnd (ga ρ) fun x => bnd (gb ρ) fun y => bnd (h x y) fun z => bnd (asB z) fun c => if c then (bnd (gc ρ) fun u => bnd (h' y u) fun z => bnd (asB z) fun c => if c then bnd (gd ρ) fun w => h'' u w else .ok (.bool false)) else .ok (.bool false)
section
variable {K : PySem.W.Frag} {W : Wt} {Δ : List Kd} {ta tb tc td : TE} {ga gb gc gd : Gd} {av fr av' fr' av2 fr2 av3 fr3 : Bool}
theorem se_chain3 {r r' r'' : R2} {h h' h'' : Dt → Dt → O Dt} (hs : Scl2 h) (ho : OSc K r h) (hs' : Scl2 h') (ho' : OSc K r' h') (hs'' : Scl2 h'') (ho'' : OSc K r'' h'') (ha : SE K W Δ ta (.v av fr) ga) (hb : SE K W Δ tb (.v av' fr') gb) (hc : SE K W Δ tc (.v av2 fr2) gc) (hd : SE K W Δ td (.v av3 fr3) gd) :
    SE K W Δ (tChain3 r r' r'' ta tb tc td) (.v true true) (gChain3 h h' h'' ga gb gc gd) := fun f ρ σ H Q R q => by
  refine ha f ρ σ H _ R ?_
  unfold gChain3 at q
  cases e1 : ga ρ with
  | bad => rw [e1] at q; exact q
  | ex z => rw [e1] at q; exact q
  | ok d =>
    rw [e1, bnd_ok] at q
    intro v H1 s1 x1
    refine hb f ρ σ H1 _ (R.mono s1) ?_
    cases e2 : gb ρ with
    | bad => rw [e2] at q; exact q
    | ex z => rw [e2] at q; exact fun H' s => q H' (s1.trans s)
    | ok d2 =>
      rw [e2, bnd_ok] at q
      intro v2 H2 s2 x2
      refine ho H2 v v2 d d2 _ ((x1.same s2).weak fun _ _ => trivial) (x2.weak fun _ _ => trivial) ?_
      rcases hs d d2 with ⟨z, ez, sz⟩ | ez
      · rw [ez] at q ⊢
        rw [bnd_ok] at q
        refine ⟨sz, fun w x => ?_⟩
        cases x with
        | bl c =>
          refine ⟨c, rfl, ?_⟩
          cases c with
          | false =>
            show (if false = true then _ else _)
            rw [if_neg Bool.false_ne_true]
            exact q _ H2 (s1.trans s2) (.bl false)
          | true =>
            show (if true = true then _ else _)
            rw [if_pos rfl]
            have q : PoE K W f Δ σ H (.v true true) (bnd (gc ρ) fun u => bnd (h' d2 u) fun z => bnd (asB z) fun c => if c then bnd (gd ρ) fun w => h'' u w else .ok (.bool false)) Q := q
            refine hc f ρ σ H2 _ ((R.mono s1).mono s2) ?_
            cases e3 : gc ρ with
            | bad => rw [e3] at q; exact q
            | ex z => rw [e3] at q; exact fun H' s => q H' ((s1.trans s2).trans s)
            | ok d3 =>
              rw [e3, bnd_ok] at q
              intro v3 H3 s3 x3
              refine ho' H3 v2 v3 d2 d3 _ ((x2.same s3).weak fun _ _ => trivial) (x3.weak fun _ _ => trivial) ?_
              rcases hs' d2 d3 with ⟨z, ez, sz⟩ | ez
              · rw [ez] at q ⊢
                rw [bnd_ok] at q
                refine ⟨sz, fun w x => ?_⟩
                cases x with
                | bl c =>
                  refine ⟨c, rfl, ?_⟩
                  cases c with
                  | false =>
                    show (if false = true then _ else _)
                    rw [if_neg Bool.false_ne_true]
                    exact q _ H3 ((s1.trans s2).trans s3) (.bl false)
                  | true =>
                    show (if true = true then _ else _)
                    rw [if_pos rfl]
                    have q : PoE K W f Δ σ H (.v true true) (bnd (gd ρ) fun w => h'' d3 w) Q := q
                    refine hd f ρ σ H3 _ (((R.mono s1).mono s2).mono s3) ?_
                    cases e4 : gd ρ with
                    | bad => rw [e4] at q; exact q
                    | ex z => rw [e4] at q; exact fun H' s => q H' (((s1.trans s2).trans s3).trans s)
                    | ok d4 =>
                      rw [e4, bnd_ok] at q
                      intro v4 H4 s4 x4
                      refine ho'' H4 v3 v4 d3 d4 Q ((x3.same s4).weak fun _ _ => trivial) (x4.weak fun _ _ => trivial) ?_
                      rcases hs'' d3 d4 with ⟨z, ez, sz⟩ | ez
                      · rw [ez] at q ⊢
                        exact ⟨sz, fun w x => q w H4 (((s1.trans s2).trans s3).trans s4) (x.scl_any sz)⟩
                      · rw [ez] at q
                        exact q.elim
                | non => exact q.elim
                | int => exact q.elim
                | str => exact q.elim
                | lst => cases sz
                | fz => cases sz
                | tup => cases sz
                | dic => cases sz
              · rw [ez] at q
                exact q.elim
        | non => exact q.elim
        | int => exact q.elim
        | str => exact q.elim
        | lst => cases sz
        | fz => cases sz
        | tup => cases sz
        | dic => cases sz
      · rw [ez] at q
        exact q.elim
end
section
variable {X : Cx} {K : PySem.W.Frag} {W : Wt} {Δ : List Kd} {a b c d : Expr} {ta tb tc td : TE} {ga gb gc gd : Gd} {av fr av' fr' av2 fr2 av3 fr3 : Bool} {pos : Pos} {op op' op'' : CmpOp} {r r' r'' : R2} {h h' h'' : Dt → Dt → O Dt}
theorem x_chain3 (o : OR X K op r h) (o' : OR X K op' r' h') (o'' : OR X K op'' r'' h'') (ha : PD X K W Δ a ta (.v av fr) ga) (hb : PD X K W Δ b tb (.v av' fr') gb) (hc : PD X K W Δ c tc (.v av2 fr2) gc) (hd : PD X K W Δ d td (.v av3 fr3) gd) (hm : lastMarks [op, op', op''] [b, c, d] = false := by with_unfolding_all rfl) : PD X K W Δ (.Compare a [op, op', op''] [b, c, d] pos) (tChain3 r r' r'' ta tb tc td) (.v true true) (gChain3 h h' h'' ga gb gc gd) :=
  ⟨pe_chain3 o.ho o'.ho o''.ho ha.pe hb.pe hc.pe hd.pe hm, ha.hK, se_chain3 o.scl o.osc o'.scl o'.osc o''.scl o''.osc ha.se hb.se hc.se hd.se⟩
end
theorem gChain3_def (h h' h'' : Dt → Dt → O Dt) (ga gb gc gd : Gd) (ρ : List Dt) : gChain3 h h' h'' ga gb gc gd ρ = bnd (ga ρ) fun x => bnd (gb ρ) fun y => bnd (h x y) fun z => bnd (asB z) fun c => if c then (bnd (gc ρ) fun u => bnd (h' y u) fun z => bnd (asB z) fun c => if c then bnd (gd ρ) fun w => h'' u w else .ok (.bool false)) else .ok (.bool false) := rfl

/-! ### xs[i] += e -/
def rGetL (K : PySem.W.Frag) : V → V → Hp → VK → Prop := fun o i H Q => ∃ p xs k v, o = .ref p ∧ i = .int k ∧ 0 ≤ k ∧ SqL K H p xs ∧ xs[k.toNat]? = some v ∧ Q v H
theorem get_listR {X : Cx} : PGet X (rGetL X.K) := fun pins s σ H o i ov iv Q I ro ri h => by
  obtain ⟨p, xs, k, v, e1, e2, k0, hq, hg, q⟩ := h
  subst e1 e2
  obtain ⟨its, rv, pl, hl⟩ := I.list hq
  obtain ⟨u, hu, ru⟩ := rv.get hg
  cases ro
  obtain ⟨t, rfl⟩ := ri
  have h63 := line63
  have hlt : k.toNat < xs.length := by
    rcases Nat.lt_or_ge k.toNat xs.length with h | h
    · exact h
    · rw [List.getElem?_eq_none h] at hg
      cases hg
  obtain ⟨o, n, p1, p2, _, p4⟩ := pl
  exact wpAny_getItem_list ⟨o, p1, p2, n, p4⟩ k0 (by omega) (by simpa using hu) ⟨v, H, I, ru, q⟩
def gAugI (f : Int → Int → Int) (i : Nat) (ge gi : Gd) : Gs := fun ρ => match ρ[i]? with
  | some (.list ds) => bnd (gi ρ) fun k => (match k with
    | .int k => if 0 ≤ k then (match ds[k.toNat]? with
      | some (.int x) => bnd (ge ρ) fun d => (match d with
        | .int y => .ok (.nx (ρ.set i (.list (ds.set k.toNat (.int (f x y))))))
        | _ => .bad)
      | _ => .bad) else .bad
    | _ => .bad)
  | _ => .bad
theorem ixN_nn {n : Nat} {k : Int} (h0 : 0 ≤ k) (h : k.toNat < n) : ixN n k = some k.toNat := by
  unfold ixN
  rw [if_pos h0, if_pos (by omega)]
section
variable {K : PySem.W.Frag} {W : Wt} {L : Lk} {Δ Δb Δc : List Kd} {te ti : TE} {ge gi : Gd} {fr av fr' av2 fr2 : Bool} {i : Nat}
theorem s_augI {hf : Int → Int → Int} (hk : Δ[i]? = some (.own .l fr)) (h : SE K W Δ te (.v av fr') ge) (h2 : SE K W Δ ti (.v av2 fr2) gi) : SS K W L Δ (Δ.set i (.own .l fr)) Δb Δc (tAugS (tVar i) ti te (rGetL K) (ipI hf) rSetL) (gAugI hf i ge gi) := fun f ρ σ H E r q => by
  obtain ⟨p, d, g1, g2, g3, vs, ds, ed, g4, g5⟩ := r.ow i .l fr hk
  subst ed
  unfold gAugI at q
  rw [g2] at q
  simp only at q
  refine ⟨_, g1, h2 f ρ σ H _ r ?_⟩
  cases e2 : gi ρ with
  | bad => rw [e2] at q; exact q
  | ex z => rw [e2] at q; exact fun H' s => q σ H' (r.ext.trans s)
  | ok k =>
    rw [e2, bnd_ok] at q
    intro kv H2 s2 xk
    cases k with
    | int k =>
      simp only at q
      split at q
      · rename_i k0
        split at q
        · rename_i x ex
          obtain ⟨y, hy, xy⟩ := g5.get' ex
          rw [rpInt xy] at hy
          rw [rpInt xk]
          have hp2 := s2 _ _ g4
          refine ⟨p, vs, k, .int x, rfl, rfl, k0, .of hp2, hy, h f ρ σ H2 _ (r.mono s2) ?_⟩
          cases e3 : ge ρ with
          | bad => rw [e3] at q; exact q
          | ex z => rw [e3] at q; exact fun H' s => q σ H' ((r.ext.trans s2).trans s)
          | ok d =>
            rw [e3, bnd_ok] at q
            intro v H3 s3 xv
            cases d with
            | int y =>
              simp only at q
              rw [rpInt xv]
              have s23 := s2.trans s3
              have hp := s23 _ _ g4
              have hlt : k.toNat < vs.length := by
                rcases Nat.lt_or_ge k.toNat vs.length with h | h
                · exact h
                · rw [List.getElem?_eq_none h] at hy
                  cases hy
              refine ⟨x, y, rfl, rfl, p, vs, k, k.toNat, rfl, rfl, hp, ixN_nn k0 hlt, q σ _ ?_⟩
              refine (r.mono s23).updOwn hk g1 (c' := .l) (show Mutb (.lst _) from trivial) ⟨_, _, rfl, upd_same, ?_⟩
              have nf : ∀ {fr : Bool} (a : Addr), FM f Δ σ true fr a → a ≠ p := fun a fa z => (fa.1 rfl).1 (z ▸ ⟨i, .l, _, hk, g1⟩)
              exact RpA.set (.int _) k.toNat ((g5.same s23).updM hp trivial fun a fa => nf a fa)
            | _ => exact q.elim
        · exact q.elim
      · exact q.elim
    | _ => exact q.elim
end
section
variable {X : Cx} {K : PySem.W.Frag} {W : Wt} {Δ Δb Δc : List Kd} {e ix : Expr} {te ti : TE} {ge gi : Gd} {av fr av2 fr2 fr' : Bool} {L : Lk} {pos : Pos}
theorem z_augI (i : Nat) {x : Str} {p sp : Pos} (h : PD X K W Δ e te (.v av fr') ge) (h2 : PD X K W Δ ix ti (.v av2 fr2) gi) (hk : Δ[i]? = some (.own .l fr) := by rfl) (hv : Vis X.env.scope x := by first | exact Or.inl rfl | exact Or.inr (Or.inl rfl) | exact Or.inr (Or.inr rfl)) (hN : X.N[i]? = some x := by rfl) (hd : (x == ("__debug__" : Str)) = false := by decide) (hcd : (x == ("__classdict__" : Str)) = false := by decide)
    (ha : ∀ (ov iv new : Value), augStore ix ov iv new = (do
      holding [new, ov, iv] (setItem ov iv new)
      release [new, ov, iv] []
      pure Flow.next) := by intro _ _ _; rfl) :
    SD X K W L Δ (Δ.set i (.own .l fr)) Δb Δc (.AugAssign (.Subscript (.Name x p) ix sp) .Add e pos) (tAugS (tVar i) ti te (rGetL K) (ipI fun i j => i + j) rSetL) (gAugI (fun i j => i + j) i ge gi) :=
  ⟨by have q := ps_augS (pos := pos) (tpos := sp) (o := .Name x p) (pe_var hN hv hd hcd) h2.pe get_listR h.pe ip_add set_list ha; rw [h.hK] at q; exact q, h.hK, s_augI hk h.se h2.se⟩
end
theorem augI_ok {f : Int → Int → Int} {i : Nat} {ge gi : Gd} {ρ : List Dt} {ns : List Int} {k y : Int} (h1 : ρ[i]? = some (.list (ns.map .int))) (h2 : gi ρ = .ok (.int k)) (h3 : ge ρ = .ok (.int y)) (k0 : 0 ≤ k) (hk : k.toNat < ns.length) :
    gAugI f i ge gi ρ = .ok (.nx (ρ.set i (.list ((ns.set k.toNat (f ns[k.toNat] y)).map .int)))) := by
  have e : (ns.map PyData.int)[k.toNat]? = some (.int ns[k.toNat]) := by rw [List.getElem?_map, List.getElem?_eq_getElem hk]; rfl
  unfold gAugI
  rw [h1]
  simp only [h2, bnd_ok, if_pos k0, e, h3, List.map_set]

/-! ### a walk over a list made with effects -/
def xSeq (g : Gx) : List Dt → O (List Dt × List Dt) := fun ρ => bx (g ρ) fun x => match x.1 with
  | .list ds => .ok (ds, x.2)
  | .tuple ds => .ok (ds, x.2)
  | _ => .bad
section
variable {K : PySem.W.Frag} {W : Wt} {L : Lk} {Δ Δb Δc : List Kd} {te : TE} {gx : Gx} {gg : TG} {sl : List Nat} {n : Nat} {hh : Dt → List Dt → O (List Dt)} {TK : Bool → List Kd → List Kd} {t : TS} {gb : Gs} {fr av : Bool}
theorem s_for_at (hn : Δ.length = n) (hg : GJ K n gg sl hh TK) (hb : SS K W L (TK fr Δ) Δ Δ Δ t gb) {f : Fm} {ρ : List Dt} {σ : L2.St} {H1 : Hp} {E : Ends} {vs : List V} {es ds : List Dt} (r : R K f Δ ρ σ H1) (q : PoS K W L f Δ Δb Δc (forE hh gb ds ρ) E)
    (x : RpA K (FM f Δ σ true fr) H1 vs es) {J} (sc : Sc K J none vs es ds) : tFor (fun σ H Rk => Rk J H) gg t E σ H1 := by
  have r1 := r.addG (fr := fr) x
  have q1 := q.toG (gg := (vs, es, fr))
  generalize hf1 : ({ f with Γ := (vs, es, fr) :: f.Γ } : Fm) = f1 at r1 q1
  have gG : (vs, es, fr) ∈ f1.Γ := by rw [← hf1]; exact List.mem_cons_self
  refine ⟨fun i m σ H => m = ds.length - i ∧ i ≤ ds.length ∧ ∃ ρ, R K f1 Δ ρ σ H ∧ PoS K W L f1 Δ Δb Δc (forE hh gb (ds.drop i) ρ) E, ⟨ds.length, by simp, Nat.zero_le _, ρ, r1, q1⟩, ?_⟩
  rintro i m σ2 H2 ⟨rfl, hi, ρ2, r2, q2⟩
  have stand : (∀ q, (none : Option (Addr × HO)) = some q → H2 q.1 = some q.2) ∧ ∃ F, RpA K F H2 vs es := ⟨fun _ e => (nomatch e), _, r2.gh _ gG⟩
  by_cases hlt : i < ds.length
  · refine .inr ⟨sc.goes i H2 hlt stand, fun σ' H' => i + 1 ≤ ds.length ∧ ∃ ρ, R K f1 Δ ρ σ' H' ∧ PoS K W L f1 Δ Δb Δc (forE hh gb (ds.drop (i + 1)) ρ) E, fun σ' H' w => ⟨ds.length - (i + 1), by omega, rfl, w⟩, fun x H3 hy => ?_⟩
    obtain ⟨s3, hx⟩ := sc.yields i H2 x H3 hlt stand hy
    obtain ⟨d, hd, x3⟩ := hx _ (r2.gh _ gG)
    have edrop : ds.drop i = d :: ds.drop (i + 1) := by
      have hd' := (List.getElem?_eq_some_iff.mp hd).2
      rw [List.drop_eq_getElem_cons hlt, hd']
    rw [edrop] at q2
    unfold forE at q2
    refine hg f1 Δ ρ2 σ2 H3 x d fr _ hn (r2.mono s3) x3 ?_
    cases eh : hh d ρ2 with
    | bad => rw [eh] at q2; exact q2.elim
    | ex z => rw [eh] at q2; exact q2.elim
    | ok ρ3 =>
      rw [eh] at q2
      simp only at q2
      intro σ4 t4
      refine hb f1 ρ3 σ4 H3 _ t4.r ?_
      cases e2 : gb ρ3 with
      | bad => rw [e2] at q2; exact q2
      | ex z => rw [e2] at q2; exact q2
      | ok fl =>
        rw [e2, bnd_ok] at q2
        cases fl with
        | nx ρ' => exact fun σ' H' r' => ⟨hlt, ρ', r', q2⟩
        | ct ρ' => exact fun σ' H' r' => ⟨hlt, ρ', r', q2⟩
        | bk ρ' => exact q2
        | rt d => exact q2
  · have ei : i = ds.length := by omega
    subst ei
    rw [List.drop_length] at q2
    exact .inl ⟨sc.stops H2 stand, q2 σ2 H2 r2⟩
theorem s_forXl (hn : Δ.length = n) (h : SX K Δ te (.v true fr) gx) (hg : GJ K n gg sl hh TK) (hb : SS K W L (TK fr Δ) Δ Δ Δ t gb) :
    SS K W L Δ Δ Δb Δc (tFor (iSeq K te) gg t) (xFor (xSeq gx) hh gb) := fun f ρ σ H E r q => by
  refine h f ρ σ H _ r ?_
  obtain ⟨⟨ds, ρ1⟩, e1, q⟩ := bx_inv (P := fun o => PoS K W L f _ Δb Δc o E) id q
  obtain ⟨⟨d, ρ0⟩, e2, e1⟩ := bx_inv (P := fun o => o = .ok (ds, ρ1)) (fun z => nomatch z) e1
  rw [e2]
  intro v H1 r1 x1
  cases d with
  | list ds' =>
    cases e1
    obtain ⟨a, xs, rfl, hs, r'⟩ := x1.sql
    exact ⟨a, rfl, .inl ⟨⟨xs, hs⟩, s_for_at (vs := [.ref a]) (es := [.list ds]) hn hg hb r1 q (.cons x1 .nil) sc_list⟩⟩
  | tuple ds' =>
    cases e1
    obtain ⟨a, xs, rfl, hs, r'⟩ := x1.sqt
    exact ⟨a, rfl, .inr ⟨⟨xs, hs⟩, s_for_at (vs := [.ref a]) (es := [.tuple ds]) hn hg hb r1 q (.cons x1 .nil) sc_tup⟩⟩
  | _ => cases e1
end
section
variable {X : Cx} {K : PySem.W.Frag} {W : Wt} {Δ Δb Δc : List Kd} {e tg : Expr} {te : TE} {gx : Gx} {g1 : Gs} {t : TS} {sts : List Stmt} {fr : Bool} {L : Lk} {pos : Pos}
theorem zx_forL {n : Nat} {gg : TG} {sl : List Nat} {hh : Dt → List Dt → O (List Dt)} {TK : Bool → List Kd → List Kd} (hp : PassesOwn (model X.prog X.w) X.A X.env X.xe) (h : XD X K Δ e te (.v true fr) gx) (hg : GD X K n tg gg sl hh TK) (hb : BD X K W L (TK fr Δ) Δ Δ Δ sts t g1) (hn : Δ.length = n := by rfl) (hc : X.calm = true := by rfl)
    (hs : ∀ x, foldedSetIterable e X.env x = pure x := by intro _; rfl) : SD X K W L Δ Δ Δb Δc (.For tg e sts [] pos) (tFor (iSeq K te) gg t) (xFor (xSeq gx) hh g1) :=
  ⟨by have q := pi_seq (tg := tg) h.pe; rw [h.hK] at q; exact ps_for hp hc q hg.pg hb.ps hs, h.hK, s_forXl hn h.sx hg.gj hb.ss⟩
end
theorem xseq_ok {gx : Gx} {ρ ρ' ds : List Dt} (h : gx ρ = .ok (.list ds, ρ')) : xSeq gx ρ = .ok (ds, ρ') := by unfold xSeq; rw [h, bx_ok]

/-! ### defs with default values, called with all they ask -/
theorem dflI {K : PySem.W.Frag} {T : Addr} {d : Int} {tk : Tok} {o : Obj} {n : Nat} (h : K.lookup T = some o) (h2 : o.data = .seq #[.int d tk] n) : DflV K (.ref T) [.int d] := .inr ⟨(fun z => nomatch z), T, o, [.int d tk], n, rfl, h, h2, .cons ⟨tk, rfl⟩ .nil⟩
theorem bindsD {K : PySem.W.Frag} {x qual : Str} {params : Arguments} {body : List Stmt} {scope : Scope} {dvs : List V} {kws : List (Str × V)} {f : Addr} {fd : FuncData} {ps : List Str} (F : FunD K x qual params body scope dvs kws f fd) (hne : dvs ≠ [])
    (h : ∀ (T : Addr) (kV doc pm : Value) (an : Option Addr) (cdv ct : Value) (us its : List Value), us.length = ps.length → its.length = dvs.length → ∃ k, bindArgs (PySem.W.fnOf x qual params body scope (.ref T) kV doc pm an cdv ct) { pos := us } = seqItems? (.ref T) >>= k ∧ k (some its.toArray) = pure (ps.zip us)) : Binds K fd ps [] := by
  obtain ⟨ds, hv, hb⟩ := F.binds1 (ps := ps) ps.length dvs.length hne (by omega) (fun T kV doc pm an cdv ct us its h1 h2 => by
    obtain ⟨k, e1, e2⟩ := h T kV doc pm an cdv ct us its h1 h2
    refine ⟨k, e1, ?_⟩
    rw [e2, ← h2, List.drop_length, List.append_nil])
  rw [List.drop_length] at hv
  cases hv
  exact hb
section
variable {P : Program} {w : World} {K : PySem.W.Frag} {mg : Str → Option Value} {base : Heap} {x qual : Str} {st : Stmt} {fa : Addr} {fd : FuncData} {N ps : List Str} {k n m : Nat} {Δn : List Kd} {g : Gs} {dvs : List V} {kws : List (Str × V)}
theorem fn_okND (F : FunD K x qual (defArgs st) (defBody st) (defScope st) dvs kws fa fd) (S : FnScope N ps (defScope st)) (hn : ps.length = n) (hm : N.length = m) (hnm : n ≤ m)
    (hb : ∀ (cdv : Value) (A : Around) (outer : List Env) (s : Shared) (H : Hp) (E : XK), Room k (A.deeper (envOfC qual (defScope st) s.heap.objs.size fa cdv)) → ∃ ts, BD (cxOf CX0 P w K mg base N qual (defScope st) fa cdv A outer s H E).nox K W0 .n (kd0 n m false) Δn (kd0 n m false) (kd0 n m false) (defBody st) ts g) :
    FnOk P w K mg base CX0 (k + 1) fa fd ps (spG K mg n (fnN m g)) := by
  refine F.ok S (fun vs H Q E h => ?_) (fun cdv A outer s H vs Q E hr h => ?_)
  · obtain ⟨ds, h1, _⟩ := h
    rw [h1, hn]
  · obtain ⟨ds, h1, h2, h3⟩ := h
    obtain ⟨ts, B⟩ := hb cdv A outer s H E hr
    refine ⟨ts, PSs.nox B.ps, B.ss ⟨H, fun a => H a = none, [], [], none⟩ _ _ H _ (r_start h1 hm hnm h2 (fun _ h => h) (fun e => nomatch e)) ?_⟩
    unfold fnN at h3
    cases e : g (ds ++ List.replicate (m - ds.length) .none) with
    | bad => rw [e] at h3; exact h3.elim
    | ex z => rw [e] at h3; exact h3.elim
    | ok fl =>
      rw [e] at h3
      cases fl with
      | nx ρ => exact fun σ' H' r => h3 .non H' r.ext .non
      | rt d => exact fun v H' s x => h3 v H' s x
      | bk ρ => exact h3.elim
      | ct ρ => exact h3.elim
theorem fn_okLD (F : FunD K x qual (defArgs st) (defBody st) (defScope st) dvs kws fa fd) (S : FnScope N ps (defScope st)) (hn : ps.length = n) (hm : N.length = m) (hnm : n ≤ m)
    (hb : ∀ (cdv : Value) (A : Around) (outer : List Env) (s : Shared) (H : Hp) (E : XK), Room k (A.deeper (envOfC qual (defScope st) s.heap.objs.size fa cdv)) → ∃ ts, BD (cxOf CX0 P w K mg base N qual (defScope st) fa cdv A outer s H E).nox K W0 .l (kd0 n m false) Δn (kd0 n m false) (kd0 n m false) (defBody st) ts g) :
    FnOk P w K mg base CX0 (k + 1) fa fd ps (spL K mg n (fnL m g)) := by
  refine F.ok S (fun vs H Q E h => ?_) (fun cdv A outer s H vs Q E hr h => ?_)
  · obtain ⟨ds, h1, _⟩ := h
    rw [h1, hn]
  · obtain ⟨ds, h1, h2, h3⟩ := h
    obtain ⟨ts, B⟩ := hb cdv A outer s H E hr
    refine ⟨ts, PSs.nox B.ps, B.ss ⟨H, fun a => H a = none, [], [], none⟩ _ _ H _ (r_start h1 hm hnm h2 (fun _ h => h) (fun e => nomatch e)) ?_⟩
    unfold fnL at h3
    cases e : g (ds ++ List.replicate (m - ds.length) .none) with
    | bad => rw [e] at h3; exact h3.elim
    | ex z => rw [e] at h3; exact h3.elim
    | ok fl =>
      rw [e] at h3
      cases fl with
      | nx ρ => exact h3.elim
      | rt d => exact fun p H' np s x => h3 p H' np s x
      | bk ρ => exact h3.elim
      | ct ρ => exact h3.elim
end
end Sim
end T_SimR

section T_SimY
set_option Elab.async false
set_option linter.all false
set_option maxRecDepth 100000
/-! SimY: xs.index(k), xs.reverse(), xs.clear(), xs.pop(); calls that leave a default value, or name an argument. -/
namespace Sim
open PySem PySem.Spec L2
open PyProof.Rows hiding St

/-! ### xs.index(k) -/
def hIdx : Dt → Dt → O Dt := fun d e => match d, e with
  | .list ds, .int k => (match allI ds with
    | some ns => if k ∈ ns then .ok (.int ((ns.idxOf k : Nat) : Int)) else .bad
    | none => .bad)
  | _, _ => .bad
theorem flat_ints : ∀ ns : List Int, (ns.map V.int).all flatV = true
  | [] => rfl
  | n :: ns => by rw [List.map_cons, List.all_cons, flat_ints ns]; rfl
def gIdx (ga gb : Gd) : Gd := fun ρ => bnd (ga ρ) fun d => match d with
  | .list ds => bnd (gb ρ) fun e => hIdx (.list ds) e
  | _ => .bad
def gRvS (i : Nat) : Gs := fun ρ => match ρ[i]? with
  | some (.list ds) => .ok (.nx (ρ.set i (.list ds.reverse)))
  | _ => .bad
def gClr (i : Nat) : Gs := fun ρ => match ρ[i]? with
  | some (.list _) => .ok (.nx (ρ.set i (.list [])))
  | _ => .bad
def gPopS (i : Nat) : Gs := fun ρ => match ρ[i]? with
  | some (.list (d :: ds)) => .ok (.nx (ρ.set i (.list (d :: ds).dropLast)))
  | _ => .bad
section
variable {K : PySem.W.Frag} {W : Wt} {L : Lk} {Δ Δb Δc : List Kd} {to te : TE} {ga gb g : Gd} {fr av fr' av' : Bool} {i : Nat}
theorem se_index (ha : SE K W Δ to (.v av fr) ga) (hb : SE K W Δ te (.v av' fr') gb) : SE K W Δ (tBM K "list" (rIndex K) to (tCons te tNil)) (.v true true) (gIdx ga gb) := fun f ρ σ H Q R q => by
  refine ha f ρ σ H _ R ?_
  unfold gIdx at q
  cases e1 : ga ρ with
  | bad => rw [e1] at q; exact q
  | ex z => rw [e1] at q; exact q
  | ok d =>
    rw [e1, bnd_ok] at q
    intro v H1 s1 x1
    cases d with
    | list ds =>
      obtain ⟨a, xs, rfl, hs, r'⟩ := x1.sql
      refine ⟨.inl ⟨rfl, xs, hs⟩, hb f ρ σ H1 _ (R.mono s1) ?_⟩
      simp only at q
      cases e2 : gb ρ with
      | bad => rw [e2] at q; exact q
      | ex z => rw [e2] at q; exact fun H' s => q H' (s1.trans s)
      | ok e =>
        rw [e2, bnd_ok] at q
        intro u H2 s2 x2
        unfold hIdx at q
        cases e with
        | int k =>
          simp only at q
          cases ea : allI ds with
          | none => rw [ea] at q; exact q.elim
          | some ns =>
            rw [ea] at q
            simp only at q
            by_cases hm : k ∈ ns
            · rw [if_pos hm] at q
              obtain ⟨a', xs', e', hs2, r2⟩ := (x1.same s2).sql
              cases e'
              have ev := rp_ints r2 ea
              subst ev
              obtain ⟨g1, g2⟩ := idxOf_get hm
              rw [rpInt x2]
              refine ⟨a, _, .int k, ns.idxOf k, .int k, rfl, rfl, hs2, rfl, flat_ints ns, by rw [List.getElem?_map, g1]; rfl, by unfold eqV; simp, fun m z' hm' hz => ?_, q _ H2 (s1.trans s2) (.int _)⟩
              rw [List.getElem?_map] at hz
              cases en : ns[m]? with
              | none => rw [en] at hz; cases hz
              | some y =>
                rw [en] at hz
                cases hz
                have : y ≠ k := fun z => g2 m hm' (by rw [en, z])
                unfold eqV
                simpa using this
            · rw [if_neg hm] at q
              exact q.elim
        | _ => exact q.elim
    | _ => exact q.elim
theorem RpA.dropLast {F : Addr → Prop} {H : Hp} : ∀ {xs : List V} {ds : List Dt}, RpA K F H xs ds → RpA K F H xs.dropLast ds.dropLast
  | _, _, .nil => .nil
  | _, _, .cons _ .nil => .nil
  | _, _, .cons x (.cons y r) => .cons x (RpA.dropLast (.cons y r))
theorem s_rev (hk : Δ[i]? = some (.own .l fr)) : SS K W L Δ (Δ.set i (.own .l fr)) Δb Δc (tDrop (tBM0 K "list" rReverse (tVar i))) (gRvS i) := fun f ρ σ H E r q => by
  obtain ⟨p, d, h1, h2, h3, vs, ds, ed, h4, h5⟩ := r.ow i .l fr hk
  subst ed
  unfold gRvS at q
  rw [h2] at q
  refine ⟨_, h1, .inl ⟨rfl, _, .inl (.inl h4)⟩, p, vs, rfl, rfl, h4, q σ _ ?_⟩
  have nf : ∀ {fr : Bool} (a : Addr), FM f Δ σ true fr a → a ≠ p := fun a fa z => (fa.1 rfl).1 (z ▸ ⟨i, .l, _, hk, h1⟩)
  exact r.updOwn hk h1 (c' := .l) (show Mutb (.lst _) from trivial) ⟨_, _, rfl, upd_same, RpA.reverse (h5.updM h4 trivial fun a fa => nf a fa)⟩
theorem s_clr (hk : Δ[i]? = some (.own .l fr)) : SS K W L Δ (Δ.set i (.own .l true)) Δb Δc (tDrop (tBM0 K "list" rClear (tVar i))) (gClr i) := fun f ρ σ H E r q => by
  obtain ⟨p, d, h1, h2, h3, vs, ds, ed, h4, h5⟩ := r.ow i .l fr hk
  subst ed
  unfold gClr at q
  rw [h2] at q
  refine ⟨_, h1, .inl ⟨rfl, _, .inl (.inl h4)⟩, p, vs, rfl, rfl, h4, q σ _ ?_⟩
  exact r.updOwn hk h1 (c' := .l) (show Mutb (.lst _) from trivial) ⟨_, _, rfl, upd_same, .nil⟩
theorem s_popS (hk : Δ[i]? = some (.own .l fr)) : SS K W L Δ (Δ.set i (.own .l fr)) Δb Δc (tDrop (tBM0 K "list" rPop (tVar i))) (gPopS i) := fun f ρ σ H E r q => by
  obtain ⟨p, d, h1, h2, h3, vs, ds, ed, h4, h5⟩ := r.ow i .l fr hk
  subst ed
  unfold gPopS at q
  rw [h2] at q
  cases ds with
  | nil => exact q.elim
  | cons d0 ds =>
    have hl : vs.length - 1 < vs.length := by
      rw [h5.length, List.length_cons]
      omega
    refine ⟨_, h1, .inl ⟨rfl, _, .inl (.inl h4)⟩, p, vs, vs[vs.length - 1], rfl, rfl, h4, List.getElem?_eq_getElem hl, q σ _ ?_⟩
    have nf : ∀ {fr : Bool} (a : Addr), FM f Δ σ true fr a → a ≠ p := fun a fa z => (fa.1 rfl).1 (z ▸ ⟨i, .l, _, hk, h1⟩)
    exact r.updOwn hk h1 (c' := .l) (show Mutb (.lst _) from trivial) ⟨_, _, rfl, upd_same, RpA.dropLast (h5.updM h4 trivial fun a fa => nf a fa)⟩
end

/-! ### calls with a default value left, or an argument named -/
def gCallDf (n : Nat) (g : List Dt → O Dt) (d0 : List Dt) (gA : List Dt → O (List Dt)) : Gd := fun ρ => bnd (gA ρ) fun ds => if (ds ++ d0).length = n then (match g (ds ++ d0) with
  | .ok d => .ok d
  | _ => .bad) else .bad
def gCallKw (m n : Nat) (g : List Dt → O Dt) (gA gK : List Dt → O (List Dt)) : Gd := fun ρ => bnd (gA ρ) fun ds => bnd (gK ρ) fun es => if ds.length = m ∧ (ds ++ es).length = n then (match g (ds ++ es) with
  | .ok d => .ok d
  | _ => .bad) else .bad
theorem kbn2 {K : PySem.W.Frag} {x qual : Str} {params : Arguments} {body : List Stmt} {scope : Scope} {dvs : List V} {kws : List (Str × V)} {f : Addr} {fd : FuncData} {ps : List Str} (F : FunD K x qual params body scope dvs kws f fd) (n : Nat) (ks : List Str) (hne : dvs ≠ [])
    (h : ∀ (T : Addr) (kV doc pm : Value) (an : Option Addr) (cdv ct : Value) (us its ws : List Value), us.length = n → its.length = dvs.length → ws.length = ks.length → ∃ k, bindArgs (PySem.W.fnOf x qual params body scope (.ref T) kV doc pm an cdv ct) { pos := us, kw := ks.zip ws } = seqItems? (.ref T) >>= k ∧ k (some its.toArray) = pure (ps.zip (us ++ ws))) : KBn K fd ps n ks (fun us ws => us ++ ws) (fun vs zs => vs ++ zs) := by
  refine ⟨fun s us ws hin h1 h2 => ?_, fun a b => a.append b⟩
  obtain ⟨oc, od, dV, kV, doc, pm, an, cdv, ct, osl, e, lk, hcd, hD, hK⟩ := F.ex
  subst e
  rcases hD with ⟨e, _⟩ | ⟨_, T, o, its, m, e, lT, oT, rT⟩
  · exact absurd e hne
  · subst e
    obtain ⟨k, e1, e2⟩ := h T kV doc pm an cdv ct us its ws h1 rT.length.symm h2
    intro M A E Q q
    rw [e1]
    refine wpAny_bind (wpAny_seqItems (hin T o lT) oT ?_)
    rw [e2]
    exact wpAny_pure q
section
variable {K : PySem.W.Frag} {W : Wt} {Δ : List Kd} {ta tk : TA} {gA gK : List Dt → O (List Dt)} {av fr av' fr' : Bool} {mg : Str → Option Value} {m n : Nat} {g : List Dt → O Dt}
theorem se_callLDf {d : Int} (h : SA K W Δ ta av fr gA) : SE K W Δ (tCall (spL K mg n g) [V.int d] E0 ta) (.new .l true) (gCallDf n g [.int d] gA) := fun f ρ σ H Q r q => h f ρ σ H _ r <| by
  unfold gCallDf at q
  cases e : gA ρ with
  | bad => rw [e] at q; exact q
  | ex z => rw [e] at q; exact q
  | ok ds =>
    rw [e, bnd_ok] at q
    intro vs H1 s1 x1
    by_cases hn : (ds ++ [PyData.int d]).length = n
    · rw [if_pos hn] at q
      have x2 : RpA K (fun _ => True) H1 (vs ++ [V.int d]) (ds ++ [.int d]) := (x1.weak fun _ _ => trivial).append (.cons (.int d) .nil)
      refine ⟨ds ++ [.int d], by rw [x2.length]; exact hn, x2, ?_⟩
      cases e2 : g (ds ++ [.int d]) with
      | bad => rw [e2] at q; exact q.elim
      | ex z => rw [e2] at q; exact q.elim
      | ok d =>
        rw [e2] at q
        intro p H2 np s2 x2
        refine q p H2 (s1.free np) (s1.trans s2) (x2.map (fun _ e => e) fun _ _ y => y.weak fun a na => ?_)
        obtain ⟨f1, f2, f3⟩ := (r.mono s1).fresh na.1
        exact ⟨⟨fun _ => ⟨f1, f2⟩, fun _ => r.g0 a f3⟩, na.2⟩
    · rw [if_neg hn] at q
      exact q.elim
theorem se_callLKw (h : SA K W Δ ta av fr gA) (hk : SA K W Δ tk av' fr' gK) {m2 : Nat} (hmn : m + m2 = n) : SE K W Δ (tCallN m m2 (spL K mg n g) (fun vs zs => vs ++ zs) E0 ta tk) (.new .l true) (gCallKw m n g gA gK) := fun f ρ σ H Q r q => h f ρ σ H _ r <| by
  unfold gCallKw at q
  cases e : gA ρ with
  | bad => rw [e] at q; exact q
  | ex z => rw [e] at q; exact q
  | ok ds =>
    rw [e, bnd_ok] at q
    intro vs H1 s1 x1
    refine hk f ρ σ H1 _ (r.mono s1) ?_
    cases e' : gK ρ with
    | bad => rw [e'] at q; exact q
    | ex z => rw [e'] at q; exact fun H' s => q H' (s1.trans s)
    | ok es =>
      rw [e', bnd_ok] at q
      intro zs H2 s2 x2
      by_cases hn : ds.length = m ∧ (ds ++ es).length = n
      · rw [if_pos hn] at q
        have x3 : RpA K (fun _ => True) H2 (vs ++ zs) (ds ++ es) := ((x1.same s2).weak fun _ _ => trivial).append (x2.weak fun _ _ => trivial)
        refine ⟨by rw [x1.length]; exact hn.1, ?_, ds ++ es, by rw [x3.length]; exact hn.2, x3, ?_⟩
        · have := hn.2
          rw [List.length_append] at this
          rw [x2.length]
          omega
        · cases e2 : g (ds ++ es) with
          | bad => rw [e2] at q; exact q.elim
          | ex z => rw [e2] at q; exact q.elim
          | ok d =>
            rw [e2] at q
            intro p H3 np s3 x4
            refine q p H3 ((s1.trans s2).free np) ((s1.trans s2).trans s3) (x4.map (fun _ e => e) fun _ _ y => y.weak fun a na => ?_)
            obtain ⟨f1, f2, f3⟩ := (r.mono (s1.trans s2)).fresh na.1
            exact ⟨⟨fun _ => ⟨f1, f2⟩, fun _ => r.g0 a f3⟩, na.2⟩
      · rw [if_neg hn] at q
        exact q.elim
end
section
variable {X : Cx} {K : PySem.W.Frag} {W : Wt} {Δ Δb Δc : List Kd} {o e : Expr} {es : List Expr} {to te : TE} {tA tK : TA} {ga gb g : Gd} {gA gK : List Dt → O (List Dt)} {av fr av' fr' : Bool} {L : Lk} {pos : Pos}
theorem x_index {apos cpos : Pos} (ha : PD X K W Δ o to (.v av fr) ga) (hb : PD X K W Δ e te (.v av' fr') gb)
    (hbase : attributeBase o "index" X.env (eval o X.env) = eval o X.env := by rfl)
    (hfew : ((backTo cpos (starEach [e] X.env)).all (fun x => !x.1) && (backToKw cpos (keywordEach [] X.env)).all (fun x => x.1.isSome)
      && decide ([e].length + ([] : List Keyword).length + (if ([] : List Keyword).isEmpty then 0 else 1) < 30)) = true := by rfl)
    (hline : (apos.endLine == cpos.line) = true := by rfl) (hst : starEach [e] X.env = (false, eval e X.env) :: starEach [] X.env := by rfl) (hplain : (backTo cpos (starEach [] X.env)).any (·.1) = false := by rfl) :
    PD X K W Δ (.Call (.Attribute o "index" apos) [e] [] cpos) (tBM K "list" (rIndex K) to (tCons te tNil)) (.v true true) (gIdx ga gb) :=
  ⟨by have q := pe_bm PySem.F.plainAttrs_list PySem.F.slot_list_index PySem.F.type_list_index (mt_index (X := X)) ha.pe (pa_cons hb.pe pa_nil hst) hbase hfew hline hst hplain; rw [ha.hK] at q; exact q, ha.hK, se_index ha.se hb.se⟩
theorem z_rev (i : Nat) {x : Str} {p p1 p2 : Pos} (hK : X.K = K := by rfl) (hk : Δ[i]? = some (.own .l fr) := by rfl) (hv : Vis X.env.scope x := by first | exact Or.inl rfl | exact Or.inr (Or.inl rfl) | exact Or.inr (Or.inr rfl)) (hN : X.N[i]? = some x := by rfl) (hd : (x == ("__debug__" : Str)) = false := by decide) (hcd : (x == ("__classdict__" : Str)) = false := by decide)
    (hbase : attributeBase (.Name x p) "reverse" X.env (eval (.Name x p) X.env) = eval (.Name x p) X.env := by rfl) (hline : (p1.endLine == p2.line) = true := by rfl)
    (hs : swapsWith (.Call (.Attribute (.Name x p) "reverse" p1) [] [] p2) none pos.line X.env = pure false := by rfl) :
    SD X K W L Δ (Δ.set i (.own .l fr)) Δb Δc (.Expr (.Call (.Attribute (.Name x p) "reverse" p1) [] [] p2) pos) (tDrop (tBM0 K "list" rReverse (tVar i))) (gRvS i) :=
  ⟨by have q := ps_expr (pos := pos) (pe_bm0 PySem.F.plainAttrs_list PySem.F.slot_list_reverse PySem.F.type_list_reverse mt_reverse (pe_var (pos := p) hN hv hd hcd) hbase hline) hs; rw [hK] at q; exact q, hK, s_rev hk⟩
theorem z_clr (i : Nat) {x : Str} {p p1 p2 : Pos} (hK : X.K = K := by rfl) (hk : Δ[i]? = some (.own .l fr) := by rfl) (hv : Vis X.env.scope x := by first | exact Or.inl rfl | exact Or.inr (Or.inl rfl) | exact Or.inr (Or.inr rfl)) (hN : X.N[i]? = some x := by rfl) (hd : (x == ("__debug__" : Str)) = false := by decide) (hcd : (x == ("__classdict__" : Str)) = false := by decide)
    (hbase : attributeBase (.Name x p) "clear" X.env (eval (.Name x p) X.env) = eval (.Name x p) X.env := by rfl) (hline : (p1.endLine == p2.line) = true := by rfl)
    (hs : swapsWith (.Call (.Attribute (.Name x p) "clear" p1) [] [] p2) none pos.line X.env = pure false := by rfl) :
    SD X K W L Δ (Δ.set i (.own .l true)) Δb Δc (.Expr (.Call (.Attribute (.Name x p) "clear" p1) [] [] p2) pos) (tDrop (tBM0 K "list" rClear (tVar i))) (gClr i) :=
  ⟨by have q := ps_expr (pos := pos) (pe_bm0 PySem.F.plainAttrs_list PySem.F.slot_list_clear PySem.F.type_list_clear mt_clear (pe_var (pos := p) hN hv hd hcd) hbase hline) hs; rw [hK] at q; exact q, hK, s_clr hk⟩
theorem z_popS (i : Nat) {x : Str} {p p1 p2 : Pos} (hK : X.K = K := by rfl) (hk : Δ[i]? = some (.own .l fr) := by rfl) (hv : Vis X.env.scope x := by first | exact Or.inl rfl | exact Or.inr (Or.inl rfl) | exact Or.inr (Or.inr rfl)) (hN : X.N[i]? = some x := by rfl) (hd : (x == ("__debug__" : Str)) = false := by decide) (hcd : (x == ("__classdict__" : Str)) = false := by decide)
    (hbase : attributeBase (.Name x p) "pop" X.env (eval (.Name x p) X.env) = eval (.Name x p) X.env := by rfl) (hline : (p1.endLine == p2.line) = true := by rfl)
    (hs : swapsWith (.Call (.Attribute (.Name x p) "pop" p1) [] [] p2) none pos.line X.env = pure false := by rfl) :
    SD X K W L Δ (Δ.set i (.own .l fr)) Δb Δc (.Expr (.Call (.Attribute (.Name x p) "pop" p1) [] [] p2) pos) (tDrop (tBM0 K "list" rPop (tVar i))) (gPopS i) :=
  ⟨by have q := ps_expr (pos := pos) (pe_bm0 PySem.F.plainAttrs_list PySem.F.slot_list_pop PySem.F.type_list_pop mt_pop (pe_var (pos := p) hN hv hd hcd) hbase hline) hs; rw [hK] at q; exact q, hK, s_popS hk⟩
theorem x_callLDf {d : Int} {x : Str} {p : Pos} {CXT' : CXT} {kk nn : Nat} {fa : Addr} {fd : FuncData} {ps : List Str} {gg : List Dt → O Dt} {mg : Str → Option Value} (F : FnOk X.prog X.w X.K X.mg X.base CXT' kk fa fd ps (spL K mg nn gg)) (hr : Room kk X.A) (hm : X.mg x = some (.ref fa)) (hk : PySem.W.keepIn X.K (.ref fa) = true) (hb : ∃ ds, Vals [V.int d] ds ∧ Binds X.K fd ps ds)
    (hx : Passes CXT' X E0) (h : AD X K W Δ (e :: es) tA av fr gA) (hg : Gl X x := by rfl) (hdb : (x == ("__debug__" : Str)) = false := by decide) (he : starEach (e :: es) X.env = (false, eval e X.env) :: starEach es X.env := by rfl) (hpl : (backTo pos (starEach es X.env)).any (·.1) = false := by rfl) :
    PD X K W Δ (.Call (.Name x p) (e :: es) [] pos) (tCall (spL K mg nn gg) [V.int d] E0 tA) (.new .l true) (gCallDf nn gg [.int d] gA) := ⟨by obtain ⟨ds, hd, hb⟩ := hb; exact pe_call F hr hg hm hk hb hd hx h.pa hdb he hpl, h.hK, se_callLDf h.sa⟩
theorem x_callLKw {kws : List Keyword} {nn m m2 : Nat} {x : Str} {p : Pos} {CXT' : CXT} {kk : Nat} {fa : Addr} {fd : FuncData} {ps ks : List Str} {gg : List Dt → O Dt} {mg : Str → Option Value} (F : FnOk X.prog X.w X.K X.mg X.base CXT' kk fa fd ps (spL K mg nn gg)) (hr : Room kk X.A) (hm : X.mg x = some (.ref fa)) (hk : PySem.W.keepIn X.K (.ref fa) = true) (hb : KBn X.K fd ps m ks (fun us ws => us ++ ws) (fun vs zs => vs ++ zs))
    (hx : Passes CXT' X E0) (h : AD X K W Δ (e :: es) tA av fr gA) (hpk : PK X kws tK) (hsk : SA K W Δ tK av' fr' gK) (hm2 : ks.length = m2 := by rfl) (hmn : m + m2 = nn := by rfl) (hg : Gl X x := by rfl) (hdb : (x == ("__debug__" : Str)) = false := by decide) (he : starEach (e :: es) X.env = (false, eval e X.env) :: starEach es X.env := by rfl)
    (hk1 : ((backToKw pos (keywordEach kws X.env)).all fun x => x.1.isSome) = true := by rfl) (hk2 : (backToKw pos (keywordEach kws X.env)).filterMap (fun x => x.1) = ks := by rfl)
    (hk3 : (((backTo pos (starEach (e :: es) X.env)).any fun x => x.1) || (backToKw pos (keywordEach kws X.env)).any fun x => x.1.isNone) = false := by rfl) :
    PD X K W Δ (.Call (.Name x p) (e :: es) kws pos) (tCallN m m2 (spL K mg nn gg) (fun vs zs => vs ++ zs) E0 tA tK) (.new .l true) (gCallKw m nn gg gA gK) := ⟨by subst hm2; exact pe_callN F hr hg hm hk hb hx h.pa hpk hk1 hk2 hdb he hk3, h.hK, se_callLKw h.sa hsk hmn⟩
end
section
variable {X : Cx} {K : PySem.W.Frag} {W : Wt} {Δ : List Kd} {e e2 : Expr} {es : List Expr} {te2 : TE} {tA : TA} {gk : Gd} {gA : List Dt → O (List Dt)} {av fr av' fr' : Bool} {pos : Pos}
theorem x_callLK1 {nm : Option Str} {kp : Pos} {nn m : Nat} {x : Str} {p : Pos} {CXT' : CXT} {kk : Nat} {fa : Addr} {fd : FuncData} {ps ks : List Str} {gg : List Dt → O Dt} {mg : Str → Option Value} (F : FnOk X.prog X.w X.K X.mg X.base CXT' kk fa fd ps (spL K mg nn gg)) (hr : Room kk X.A) (hm : X.mg x = some (.ref fa)) (hk : PySem.W.keepIn X.K (.ref fa) = true) (hb : KBn X.K fd ps m ks (fun us ws => us ++ ws) (fun vs zs => vs ++ zs))
    (hx : Passes CXT' X E0) (h : AD X K W Δ (e :: es) tA av fr gA) (h2 : PD X K W Δ e2 te2 (.v av' fr') gk) (hm2 : ks.length = 1 := by rfl) (hmn : m + 1 = nn := by rfl) (hg : Gl X x := by rfl) (hdb : (x == ("__debug__" : Str)) = false := by decide) (he : starEach (e :: es) X.env = (false, eval e X.env) :: starEach es X.env := by rfl) (hs2 : starEach [e2] X.env = (false, eval e2 X.env) :: starEach [] X.env := by rfl)
    (hk1 : ((backToKw pos (keywordEach [⟨nm, e2, kp⟩] X.env)).all fun x => x.1.isSome) = true := by rfl) (hk2 : (backToKw pos (keywordEach [⟨nm, e2, kp⟩] X.env)).filterMap (fun x => x.1) = ks := by rfl)
    (hk3 : (((backTo pos (starEach (e :: es) X.env)).any fun x => x.1) || (backToKw pos (keywordEach [⟨nm, e2, kp⟩] X.env)).any fun x => x.1.isNone) = false := by rfl) :
    PD X K W Δ (.Call (.Name x p) (e :: es) [⟨nm, e2, kp⟩] pos) (tCallN m 1 (spL K mg nn gg) (fun vs zs => vs ++ zs) E0 tA (tCons te2 tNil)) (.new .l true) (gCallKw m nn gg gA (gCons gk gNil)) := ⟨by rw [← hm2]; exact pe_callN F hr hg hm hk hb hx h.pa (pk_cons h2.pe pk_nil) hk1 hk2 hdb he hk3, h.hK, se_callLKw h.sa (a_cons h2 (a_nil h2.hK) hs2).sa hmn⟩
end
theorem idx_ok {ga gb : Gd} {ρ : List Dt} {ns : List Int} {k : Int} (h1 : ga ρ = .ok (.list (ns.map .int))) (h2 : gb ρ = .ok (.int k)) (h3 : k ∈ ns) : gIdx ga gb ρ = .ok (.int ((ns.idxOf k : Nat) : Int)) := by
  unfold gIdx hIdx
  rw [h1, bnd_ok]
  simp only [h2, bnd_ok, allI_map, if_pos h3]
theorem callDf_ok {n : Nat} {g : List Dt → O Dt} {d0 : List Dt} {gA : List Dt → O (List Dt)} {ρ ds : List Dt} {d : Dt} (h1 : gA ρ = .ok ds) (h2 : (ds ++ d0).length = n) (h3 : g (ds ++ d0) = .ok d) : gCallDf n g d0 gA ρ = .ok d := by
  unfold gCallDf
  rw [h1, bnd_ok, if_pos h2, h3]
theorem callKw_ok {m n : Nat} {g : List Dt → O Dt} {gA gK : List Dt → O (List Dt)} {ρ ds es : List Dt} {d : Dt} (h1 : gA ρ = .ok ds) (h1' : gK ρ = .ok es) (h2 : ds.length = m ∧ (ds ++ es).length = n) (h3 : g (ds ++ es) = .ok d) : gCallKw m n g gA gK ρ = .ok d := by
  unfold gCallKw
  rw [h1, bnd_ok, h1', bnd_ok, if_pos h2, h3]
end Sim
end T_SimY

section T_SimZ
set_option Elab.async false
set_option linter.all false
set_option maxRecDepth 100000
/-! SimZ: dicts as values (read), dicts as changed arguments, defs that change their argument and end without a return. -/
namespace Sim
open PySem PySem.Spec L2
open PyProof.Rows hiding St

def hDIx : Dt → Dt → O Dt := fun d e => match d with
  | .dict es => (match keyOf e with
    | some k => (match dGet es k with
      | some z => .ok z
      | none => .bad)
    | none => .bad)
  | _ => .bad
def hDInV (neg : Bool) : Dt → Dt → O Dt := fun e d => match d with
  | .dict es => (match keyOf e with
    | some k => .ok (.bool (if neg then !(dGet es k).isSome else (dGet es k).isSome))
    | none => .bad)
  | _ => .bad
def isD : Ct → Bool
  | .dk => true
  | .ka => true
  | _ => false
section
variable {K : PySem.W.Frag} {F : Addr → Prop} {H : Hp} {p : Addr} {d : Dt} {c : Ct} {v : V}
theorem kvA_of : ∀ {kvs : List (Key × V)} {es : List (Dt × Dt)}, kvs.map (fun kv => keyD kv.1) = es.map (fun e => e.1) → RpA K F H (kvs.map fun kv => kv.2) (es.map fun e => e.2) → KvA K F H kvs es
  | [], [], _, _ => .nil
  | [], _ :: _, h, _ => by simp at h
  | _ :: _, [], h, _ => by simp at h
  | (k, v) :: kvs, (e1, e2) :: es, h, r => by
    rw [List.map_cons, List.map_cons] at h
    injection h with h1 h2
    have h1 : keyD k = e1 := h1
    subst h1
    cases r with
    | cons x r => exact .cons x (kvA_of h2 r)
theorem KvA.keys : ∀ {kvs : List (Key × V)} {es : List (Dt × Dt)}, KvA K F H kvs es → kvs.map (fun kv => keyD kv.1) = es.map (fun e => e.1)
  | _, _, .nil => rfl
  | _, _, .cons h r => by rw [List.map_cons, List.map_cons, r.keys]
theorem KvA.vals : ∀ {kvs : List (Key × V)} {es : List (Dt × Dt)}, KvA K F H kvs es → RpA K F H (kvs.map fun kv => kv.2) (es.map fun e => e.2)
  | _, _, .nil => .nil
  | _, _, .cons h r => .cons h r.vals
theorem Rp.dict {es : List (Dt × Dt)} (h : Rp K F H v (.dict es)) : ∃ p kvs, v = .ref p ∧ H p = some (.dK kvs) ∧ KvA K F H kvs es := by
  cases h with
  | dic h fa hk r => exact ⟨_, _, rfl, h, kvA_of hk r⟩
theorem dk_any (hc : isD c = true) (h : OwC K c F H p d) : ∃ kvs es, d = .dict es ∧ H p = some (.dK kvs) ∧ KvA K F H kvs es := by
  cases c with
  | dk => exact h
  | ka => exact h
  | _ => cases hc
end
section
variable {K : PySem.W.Frag} {W : Wt} {Δ Δb Δc : List Kd} {te ti ta : TE} {g ge gk ga : Gd} {fr fr' av av' : Bool} {L : Lk} {i : Nat} {c : Ct}
theorem se_ownD (hk : Δ[i]? = some (.own c fr)) (hc : isD c = true) : SE K W Δ (tVar i) (.v false fr) (gVar i) := fun f ρ σ H Q r q => by
  obtain ⟨p, d, h1, h2, h3, h4⟩ := r.ow i c fr hk
  obtain ⟨kvs, es, rfl, h5, h6⟩ := dk_any hc h4
  unfold gVar at q
  rw [h2] at q
  exact ⟨_, h1, q _ H (Same.refl H) (.dic h5 ⟨fun z => (nomatch z), fun _ => r.g0 p h3⟩ h6.keys (h6.vals.weak fun a fa => ⟨fun z => (nomatch z), fa.2⟩))⟩
theorem se_dgetV (ha : SE K W Δ ta (.v av fr) ga) (h : SE K W Δ ti (.v av' fr') gk) : SE K W Δ (tDGet ta ti) (.v av fr) (gOp hDIx ga gk) := fun f ρ σ H Q r q => by
  refine ha f ρ σ H _ r ?_
  unfold gOp at q
  cases e1 : ga ρ with
  | bad => rw [e1] at q; exact q
  | ex z => rw [e1] at q; exact q
  | ok d =>
    rw [e1, bnd_ok] at q
    intro v H1 s1 x1
    refine h f ρ σ H1 _ (r.mono s1) ?_
    cases e2 : gk ρ with
    | bad => rw [e2] at q; exact q
    | ex z => rw [e2] at q; exact fun H' s => q H' (s1.trans s)
    | ok kd =>
      rw [e2, bnd_ok] at q
      intro kv H2 s2 xk
      unfold hDIx at q
      cases d with
      | dict es =>
        simp only at q
        cases ek : keyOf kd with
        | none => rw [ek] at q; exact q.elim
        | some k =>
          rw [ek] at q
          simp only at q
          rw [kV_keyOf xk ek]
          obtain ⟨p, kvs, rfl, hp, g5⟩ := (x1.same s2).dict
          rcases g5.get k with ⟨_, e⟩ | ⟨v, d, e1, e, x⟩
          · rw [e] at q; exact q.elim
          · rw [e] at q
            refine ⟨p, v, rfl, ?_, q v H2 (s1.trans s2) x⟩
            rw [← e1]
            exact DGet.k hp
      | _ => exact q.elim
theorem se_dinV (neg : Bool) (h : SE K W Δ ti (.v av' fr') gk) (ha : SE K W Δ ta (.v av fr) ga) : SE K W Δ (if neg then tDNotIn ti ta else tDIn ti ta) (.v true true) (gOp (hDInV neg) gk ga) := fun f ρ σ H Q r q => by
  have key : ti σ H (fun y H1 => ta σ H1 fun x H2 => ∃ a o, x = .ref a ∧ DGet H2 a y o ∧ Q (.bl (if neg then !o.isSome else o.isSome)) H2) := by
    refine h f ρ σ H _ r ?_
    unfold gOp at q
    cases e2 : gk ρ with
    | bad => rw [e2] at q; exact q
    | ex z => rw [e2] at q; exact q
    | ok kd =>
      rw [e2, bnd_ok] at q
      intro kv H1 s1 xk
      refine ha f ρ σ H1 _ (r.mono s1) ?_
      cases e1 : ga ρ with
      | bad => rw [e1] at q; exact q
      | ex z => rw [e1] at q; exact fun H' s => q H' (s1.trans s)
      | ok d =>
        rw [e1, bnd_ok] at q
        intro v H2 s2 x1
        unfold hDInV at q
        cases d with
        | dict es =>
          simp only at q
          cases ek : keyOf kd with
          | none => rw [ek] at q; exact q.elim
          | some k =>
            rw [ek] at q
            simp only at q
            rw [kV_keyOf xk ek]
            obtain ⟨p, kvs, rfl, hp, g5⟩ := x1.dict
            refine ⟨p, valV kvs k, rfl, DGet.k hp, ?_⟩
            have eq : (valV kvs k).isSome = (dGet es k).isSome := by
              rcases g5.get k with ⟨e1, e⟩ | ⟨v, d, e1, e, x⟩ <;> rw [e1, e] <;> rfl
            rw [eq]
            exact q _ H2 (s1.trans s2) (.bl _)
        | _ => exact q.elim
  cases neg with
  | true => exact key
  | false => exact key
theorem s_dputA (hk : Δ[i]? = some (.own .ka fr)) (h : SE K W Δ te (.v true fr') ge) (h2 : SE K W Δ ti (.v av av') gk) : SS K W L Δ (Δ.set i (.own .ka (fr && fr'))) Δb Δc (sDPut (tVar i) ti te) (gDPut i ge gk) := fun f ρ σ H E r q => h f ρ σ H _ r <| by
  unfold gDPut at q
  cases e : ge ρ with
  | bad => rw [e] at q; exact q
  | ex z => rw [e] at q; exact fun H' s => q σ H' (r.ext.trans s)
  | ok d =>
    rw [e, bnd_ok] at q
    cases ed : dAt ρ i with
    | none => rw [ed] at q; exact q.elim
    | some es =>
      rw [ed] at q
      simp only at q
      obtain ⟨p, d0, g1, g2, g3, kvs, es', ed', g4, g5⟩ := r.ow i .ka fr hk
      rw [dAt_inv ed] at g2
      cases g2
      cases ed'
      intro v H1 s x
      refine ⟨_, g1, h2 f ρ σ H1 _ (r.mono s) ?_⟩
      cases e2 : gk ρ with
      | bad => rw [e2] at q; exact q
      | ex z => rw [e2] at q; exact fun H' s2 => q σ H' ((r.ext.trans s).trans s2)
      | ok kd =>
        rw [e2, bnd_ok] at q
        intro kv H2 s2 xk
        cases ek : keyOf kd with
        | none => rw [ek] at q; exact q.elim
        | some k =>
          rw [ek] at q
          simp only at q
          by_cases hl : es.length < 100000
          · rw [if_pos hl] at q
            rw [kV_keyOf xk ek]
            have s12 := s.trans s2
            have hp := s12 _ _ g4
            refine ⟨p, _, rfl, DPut.k hp (by rw [g5.length]; exact Nat.lt_of_lt_of_le hl (by decide)), q σ _ ?_⟩
            refine (r.mono s12).updOwn hk g1 (c' := .ka) (show Mutb (.dK _) from trivial) ⟨_, _, rfl, upd_same, ?_⟩
            have nf : ∀ {fr : Bool} (a : Addr), FM f Δ σ true fr a → a ≠ p := fun a fa z => (fa.1 rfl).1 (z ▸ ⟨i, .ka, _, hk, g1⟩)
            refine KvA.put ((Rp.updM hp trivial (fun a fa => nf a fa) (x.same s2)).weak fun a y => y.weak id fun h => (Bool.and_eq_true_iff.mp h).2) ?_
            exact g5.map fun v d z => (Rp.updM hp trivial (fun a fa => nf a fa) (z.same s12)).weak fun a y => y.weak id fun h => (Bool.and_eq_true_iff.mp h).1
          · rw [if_neg hl] at q
            exact q.elim
end

/-! ### a def that changes its argument and ends without a return -/
def fnM (m : Nat) (g : Gs) : List Dt → O Dt := fun ds => match g (ds ++ List.replicate (m - ds.length) .none) with
  | .ok (.nx ρ) => (match ρ[0]? with
    | some e => if argD e then .ok (.tuple [.none, e]) else .bad
    | none => .bad)
  | .ok (.rt d) => .ok d
  | _ => .bad
section
variable {P : Program} {w : World} {K : PySem.W.Frag} {mg : Str → Option Value} {base : Heap} {x qual : Str} {st : Stmt} {fa : Addr} {fd : FuncData} {N ps : List Str} {k n m : Nat} {Δn : List Kd} {g : Gs} {c : Ct} {fr0 : Bool}
theorem fn_okM2 (F : L2.Fun K x qual st fa fd) (S : FnScope N ps (defScope st)) (hn : ps.length = n) (hm : N.length = m) (hnm : n ≤ m) (hc : isArg c = true) (hz : Δn[0]? = some (.own c fr0))
    (hb : ∀ (cdv : Value) (A : Around) (outer : List Env) (s : Shared) (H : Hp) (E : XK), Room k (A.deeper (envOfC qual (defScope st) s.heap.objs.size fa cdv)) → ∃ ts, BD (cxOf CX0 P w K mg base N qual (defScope st) fa cdv A outer s H E).nox K W0 .m (kdM c n m) Δn (kdM c n m) (kdM c n m) (defBody st) ts g) :
    FnOk P w K mg base CX0 (k + 1) fa fd ps (spM K c n (fnM m g)) := by
  refine F.ok S (fun vs H Q E h => ?_) (fun cdv A outer s H vs Q E hr h => ?_)
  · obtain ⟨a, vs', d, ds', rfl, h1, _⟩ := h
    rw [h1, hn]
  · obtain ⟨a, vs', d, ds', rfl, h1, h2, h3, h4, h5⟩ := h
    obtain ⟨ts, B⟩ := hb cdv A outer s H E hr
    refine ⟨ts, B.ps, B.ss _ _ _ H _ (r_startM (by rw [List.length_cons] at h1; exact h1) hm hnm hc h2 h3 h4) ?_⟩
    unfold fnM at h5
    cases e : g ((d :: ds') ++ List.replicate (m - (d :: ds').length) .none) with
    | bad => rw [e] at h5; exact h5.elim
    | ex z => rw [e] at h5; exact h5.elim
    | ok fl =>
      rw [e] at h5
      cases fl with
      | nx ρ =>
        intro σ' H' r
        obtain ⟨p, hA, hs⟩ := r.ar 0 c fr0 hz hc
        obtain ⟨p', e', hs', g2, g3, g4⟩ := r.ow 0 c fr0 hz
        rw [hs] at hs'
        cases hs'
        cases hA
        simp only [g2] at h5
        by_cases ha : argD e' = true
        · rw [if_pos ha] at h5
          refine h5 .non H' (fun b o nb eb => r.ext b o ?_) (argAt_ow hc g4 ha) .non
          show (if b = a then none else H b) = some o
          rw [if_neg nb]
          exact eb
        · rw [if_neg ha] at h5
          exact h5.elim
      | rt z =>
        unfold PoS
        simp only
        have h5 : (match (O.ok z : O Dt) with
          | .ok (.tuple [r, e]) => ∀ v H', (∀ b o, b ≠ a → H b = some o → H' b = some o) → ArgAt K H' a e → Rp K (fun b => H b = none) H' v r → Q v H'
          | _ => False) := h5
        split at h5
        · rename_i r e ez
          cases ez
          simp only
          refine fun v H' s arg x => h5 v H' (fun b o nb eb => s b o ?_) arg (x.weak fun b fb => ?_)
          · show (if b = a then none else H b) = some o
            rw [if_neg nb]
            exact eb
          · rcases fb.1 with q | q
            · exact q
            · exact absurd q fb.2
        · exact h5.elim
      | bk ρ => exact h5.elim
      | ct ρ => exact h5.elim
end

/-! ### rules for a text -/
section
variable {X : Cx} {K : PySem.W.Frag} {W : Wt} {Δ Δb Δc : List Kd} {a b e o : Expr} {es : List Expr} {te ti ta : TE} {tA : TA} {g ge gk ga : Gd} {gA : List Dt → O (List Dt)} {fr fr' av av' : Bool} {L : Lk} {pos p pos' : Pos} {x : Str} {m : Nat} {c : Ct}
theorem x_ownD (i : Nat) (hk : Δ[i]? = some (.own c fr) := by rfl) (hc : isD c = true := by rfl) (hN : X.N[i]? = some x := by rfl) (hv : Vis X.env.scope x := by first | exact Or.inl rfl | exact Or.inr (Or.inl rfl) | exact Or.inr (Or.inr rfl)) (hd : (x == ("__debug__" : Str)) = false := by decide)
    (hcd : (x == ("__classdict__" : Str)) = false := by decide) (hK : X.K = K := by rfl) : PD X K W Δ (.Name x pos) (tVar i) (.v false fr) (gVar i) := ⟨pe_var hN hv hd hcd, hK, se_ownD hk hc⟩
theorem x_dgetV (hr : Room m X.A) (ho : PD X K W Δ o ta (.v av fr) ga) (h : PD X K W Δ e ti (.v av' fr') gk) (hs : NoSl e := by exact fun _ _ => rfl) :
    PD X K W Δ (.Subscript o e pos) (tDGet ta ti) (.v av fr) (gOp hDIx ga gk) := ⟨pe_dget (by have := hr.un; omega) ho.pe h.pe hs, h.hK, se_dgetV ho.se h.se⟩
theorem x_dinV (hr : Room m X.A) (h : PD X K W Δ e ti (.v av' fr') gk) (ho : PD X K W Δ o ta (.v av fr) ga) (hm : behindInMarks .In o = false := by rfl) :
    PD X K W Δ (.Compare e [.In] [o] pos) (tDIn ti ta) (.v true true) (gOp (hDInV false) gk ga) := ⟨pe_cmp (pc_din (by have := hr.un; omega) h.pe ho.pe) hm, h.hK, se_dinV false h.se ho.se⟩
theorem x_dninV (hr : Room m X.A) (h : PD X K W Δ e ti (.v av' fr') gk) (ho : PD X K W Δ o ta (.v av fr) ga) (hm : behindInMarks .NotIn o = false := by rfl) :
    PD X K W Δ (.Compare e [.NotIn] [o] pos) (tDNotIn ti ta) (.v true true) (gOp (hDInV true) gk ga) := ⟨pe_cmp (pc_dnotin (by have := hr.un; omega) h.pe ho.pe) hm, h.hK, se_dinV true h.se ho.se⟩
theorem c_dinV (hr : Room m X.A) (h : PD X K W Δ e ti (.v av' fr') gk) (ho : PD X K W Δ o ta (.v av fr) ga) (hm : behindInMarks .In o = false := by rfl) :
    TD X K W Δ (.Compare e [.In] [o] pos) (tB (tDIn ti ta)) (gTest (gOp (hDInV false) gk ga)) := ⟨pt_cmp (pc_din (by have := hr.un; omega) h.pe ho.pe) hm, h.hK, st_B (se_dinV false h.se ho.se)⟩
theorem c_dninV (hr : Room m X.A) (h : PD X K W Δ e ti (.v av' fr') gk) (ho : PD X K W Δ o ta (.v av fr) ga) (hm : behindInMarks .NotIn o = false := by rfl) :
    TD X K W Δ (.Compare e [.NotIn] [o] pos) (tB (tDNotIn ti ta)) (gTest (gOp (hDInV true) gk ga)) := ⟨pt_cmp (pc_dnotin (by have := hr.un; omega) h.pe ho.pe) hm, h.hK, st_B (se_dinV true h.se ho.se)⟩
theorem z_dputA (i : Nat) (hr : Room m X.A) (h : PD X K W Δ e te (.v true fr') ge) (h2 : PD X K W Δ b ti (.v av av') gk) (hk : Δ[i]? = some (.own .ka fr) := by rfl) (hv : Vis X.env.scope x := by first | exact Or.inl rfl | exact Or.inr (Or.inl rfl) | exact Or.inr (Or.inr rfl)) (hN : X.N[i]? = some x := by rfl) (hd : (x == ("__debug__" : Str)) = false := by decide) (hcd : (x == ("__classdict__" : Str)) = false := by decide) (hs : swapsWith e (some (.Subscript (.Name x p) b pos')) pos.line X.env = pure false := by rfl) :
    SD X K W L Δ (Δ.set i (.own .ka (fr && fr'))) Δb Δc (.Assign [.Subscript (.Name x p) b pos'] e pos) (sDPut (tVar i) ti te) (gDPut i ge gk) := ⟨ps_dput (by have := hr.un; omega) (pe_var hN hv hd hcd) h2.pe h.pe hs, h.hK, s_dputA hk h.se h2.se⟩
end
section
variable {K : PySem.W.Frag} {W : Wt} {Δ : List Kd} {ta : TA} {gA : List Dt → O (List Dt)} {av fr : Bool} {mg : Str → Option Value} {n : Nat} {g : List Dt → O Dt}
theorem se_callNDf {d : Int} (h : SA K W Δ ta av fr gA) : SE K W Δ (tCall (spG K mg n g) [V.int d] E0 ta) (.v true true) (gCallDf n g [.int d] gA) := fun f ρ σ H Q r q => h f ρ σ H _ r <| by
  unfold gCallDf at q
  cases e : gA ρ with
  | bad => rw [e] at q; exact q
  | ex z => rw [e] at q; exact q
  | ok ds =>
    rw [e, bnd_ok] at q
    intro vs H1 s1 x1
    by_cases hn : (ds ++ [PyData.int d]).length = n
    · rw [if_pos hn] at q
      refine ⟨ds ++ [.int d], by rw [List.length_append, x1.length, ← hn, List.length_append] <;> rfl, (x1.weak fun _ _ => trivial).append (.cons (.int d) .nil), ?_⟩
      cases e2 : g (ds ++ [.int d]) with
      | bad => rw [e2] at q; exact q.elim
      | ex z => rw [e2] at q; exact q.elim
      | ok d =>
        rw [e2] at q
        intro v H2 s2 x2
        refine q v H2 (s1.trans s2) (x2.weak fun a na => ?_)
        obtain ⟨f1, f2, f3⟩ := (r.mono s1).fresh na
        exact ⟨fun _ => ⟨f1, f2⟩, fun _ => r.g0 a f3⟩
    · rw [if_neg hn] at q
      exact q.elim
end
section
variable {X : Cx} {K : PySem.W.Frag} {W : Wt} {Δ : List Kd} {e : Expr} {es : List Expr} {tA : TA} {gA : List Dt → O (List Dt)} {fr av : Bool} {pos : Pos}
theorem x_callNDf {d : Int} {x : Str} {p : Pos} {CXT' : CXT} {kk nn : Nat} {fa : Addr} {fd : FuncData} {ps : List Str} {gg : List Dt → O Dt} {mg : Str → Option Value} (F : FnOk X.prog X.w X.K X.mg X.base CXT' kk fa fd ps (spG K mg nn gg)) (hr : Room kk X.A) (hm : X.mg x = some (.ref fa)) (hk : PySem.W.keepIn X.K (.ref fa) = true) (hb : ∃ ds, Vals [V.int d] ds ∧ Binds X.K fd ps ds)
    (hx : Passes CXT' X E0) (h : AD X K W Δ (e :: es) tA av fr gA) (hg : Gl X x := by rfl) (hdb : (x == ("__debug__" : Str)) = false := by decide) (he : starEach (e :: es) X.env = (false, eval e X.env) :: starEach es X.env := by rfl) (hpl : (backTo pos (starEach es X.env)).any (·.1) = false := by rfl) :
    PD X K W Δ (.Call (.Name x p) (e :: es) [] pos) (tCall (spG K mg nn gg) [V.int d] E0 tA) (.v true true) (gCallDf nn gg [.int d] gA) := ⟨by obtain ⟨ds, hd, hb⟩ := hb; exact pe_call F hr hg hm hk hb hd hx h.pa hdb he hpl, h.hK, se_callNDf h.sa⟩
end
/-! ### plain -/
theorem dix_ok {es : List (Dt × Dt)} {e : Dt} {k : Key} {z : Dt} (h1 : keyOf e = some k) (h2 : dGet es k = some z) : hDIx (.dict es) e = .ok z := by
  unfold hDIx
  simp only [h1, h2]
theorem dinV_ok {es : List (Dt × Dt)} {e : Dt} {k : Key} (neg : Bool) (h1 : keyOf e = some k) : hDInV neg e (.dict es) = .ok (.bool (if neg then !(dGet es k).isSome else (dGet es k).isSome)) := by
  unfold hDInV
  simp only [h1]
theorem fnM_nx {m : Nat} {g : Gs} {ds ρ : List Dt} {e : Dt} (h : g (ds ++ List.replicate (m - ds.length) .none) = .ok (.nx ρ)) (h2 : ρ[0]? = some e) (h3 : argD e = true) : fnM m g ds = .ok (.tuple [.none, e]) := by
  unfold fnM
  simp only [h, h2, h3, if_true]
end Sim
end T_SimZ

section T_FamA
set_option linter.all false
namespace FamA
open PySem Sim
def g_l_mixed : Gs := gSeqS (gSet 2 (gOp hMod (gOp hMul (gOp hAdd (gOp hAdd (gOp hMod (gVar 0) (gC (.int (2147483629)))) (gOp hMul (gC (.int (7919))) (gVar 1))) (gC (.int (11)))) (gC (.int (48271)))) (gC (.int (2147483647))))) (gSeqS (gSet 2 (gOp hMod (gOp hAdd (gOp hMod (gOp hMul (gVar 2) (gVar 2)) (gC (.int (2147483629)))) (gOp hMul (gC (.int (104729))) (gVar 1))) (gC (.int (2147483629))))) (gRet (gOp hMod (gOp hMul (gVar 2) (gC (.int (39373)))) (gC (.int (2147483647))))))
def f_l_mixed : List Dt → O Dt := fnN 3 g_l_mixed
def g_l_numbers_L1 : Gs := gSeqS (gSet 6 (gOp hAdd (gOp hMul (gVar 6) (gC (.int (2147483647)))) (gCallN 2 f_l_mixed (gCons (gVar 0) (gCons (gOp hAdd (gOp hMul (gC (.int (8))) (gVar 5)) (gVar 7)) (gNil)))))) (gSet 7 (gOp hAdd (gVar 7) (gC (.int (1)))))
def g_l_numbers_T1 : List Dt → O Bool := gTest (gOp hLt (gOp hMul (gVar 7) (gC (.int (30)))) (gOp hAdd (gUn hBits (gVar 2)) (gC (.int (8)))))
def g_l_numbers_L2 : Gs := gSeqS (gSet 6 (gVar 4)) (gSeqS (gIfS (gTest (gOp hGt (gVar 4) (gC (.int (0))))) (gSet 4 (gOp hDiv (gVar 4) (gVar 2))) (gSeqS (gSet 6 (gC (.int (0)))) (gSeqS (gSet 7 (gC (.int (0)))) (gWhile g_l_numbers_T1 g_l_numbers_L1 100)))) (gApp 3 (gOp hMod (gVar 6) (gVar 2))))
def g_l_numbers : Gs := gSeqS (gSet 3 (gLst (gNil))) (gSeqS (gSet 4 (gOp hSub (gVar 0) (gOp hPow (gC (.int (10))) (gC (.int (18)))))) (gSeqS (gFor (gRng1 (gCons (gVar 1) (gNil))) (tgN 5) g_l_numbers_L2) (gRet (gVar 3))))
def f_l_numbers : List Dt → O Dt := fnL 8 g_l_numbers
def g_l_ends : Gs := gSeqS (gSet 4 (gOp hMod (gVar 2) (gVar 0))) (gSeqS (gIfS (gTest (gOp hEq (gVar 1) (gC (.int (0))))) (gRet (gTup (gCons (gVar 4) (gCons (gOp hMod (gVar 3) (gVar 0)) (gNil))))) (gNext)) (gSeqS (gIfS (gTest (gOp hEq (gVar 1) (gC (.int (1))))) (gRet (gTup (gCons (gOp hMod (gVar 2) (gCB hMin2 (gCons (gVar 0) (gCons (gC (.int (3))) (gNil))))) (gCons (gOp hMod (gVar 3) (gCB hMin2 (gCons (gVar 0) (gCons (gC (.int (2))) (gNil))))) (gNil))))) (gNext)) (gSeqS (gIfS (gTest (gOp hEq (gVar 1) (gC (.int (2))))) (gRet (gTup (gCons (gVar 4) (gCons (gOp hMod (gOp hAdd (gOp hAdd (gVar 4) (gC (.int (1)))) (gOp hDiv (gOp hMod (gVar 3) (gC (.int (5)))) (gC (.int (4))))) (gVar 0)) (gNil))))) (gNext)) (gRet (gTup (gCons (gVar 4) (gCons (gOp hMod (gOp hAdd (gVar 4) (gOp hMul (gC (.int (2))) (gOp hMod (gVar 3) (gVar 0)))) (gVar 0)) (gNil))))))))
def f_l_ends : List Dt → O Dt := fnN 5 g_l_ends
def g_l_record_L1 : Gs := gSeqS (gAsg (gCallN 4 f_l_ends (gCons (gVar 2) (gCons (gOp hMod (gOp hIx (gVar 0) (gC (.int (3)))) (gC (.int (4)))) (gCons (gOp hIx (gVar 0) (gOp hAdd (gC (.int (4))) (gOp hMul (gC (.int (3))) (gVar 7)))) (gCons (gOp hIx (gVar 0) (gOp hAdd (gC (.int (5))) (gOp hMul (gC (.int (3))) (gVar 7)))) (gNil)))))) (tgT (tgCons (tgN 8) (tgCons (tgN 9) (tgNil))))) (gSeqS (gApp 6 (gTup (gCons (gVar 5) (gCons (gCB hMin2 (gCons (gVar 8) (gCons (gVar 9) (gNil)))) (gCons (gCB hMax2 (gCons (gVar 8) (gCons (gVar 9) (gNil)))) (gNil)))))) (gSet 5 (gOp hAdd (gOp hAdd (gVar 5) (gC (.int (1)))) (gOp hMod (gOp hIx (gVar 0) (gOp hAdd (gC (.int (6))) (gOp hMul (gC (.int (3))) (gVar 7)))) (gVar 4)))))
def g_l_record : Gs := gSeqS (gSet 2 (gOp hAdd (gC (.int (1))) (gOp hMod (gOp hIx (gVar 0) (gC (.int (0)))) (gC (.int (6)))))) (gSeqS (gIfS (gTest (gOp hEq (gOp hMod (gOp hDiv (gOp hIx (gVar 0) (gC (.int (0)))) (gC (.int (6)))) (gC (.int (8)))) (gC (.int (1))))) (gSet 2 (gOp hAdd (gC (.int (7))) (gOp hMod (gOp hDiv (gOp hIx (gVar 0) (gC (.int (0)))) (gC (.int (48)))) (gC (.int (4)))))) (gNext)) (gSeqS (gSet 3 (gOp hMod (gOp hIx (gVar 0) (gC (.int (1)))) (gC (.int (13))))) (gSeqS (gIfS (gTest (gOp hEq (gOp hMod (gOp hDiv (gOp hIx (gVar 0) (gC (.int (1)))) (gC (.int (13)))) (gC (.int (8)))) (gC (.int (1))))) (gSet 3 (gOp hAdd (gC (.int (13))) (gOp hMod (gOp hDiv (gOp hIx (gVar 0) (gC (.int (1)))) (gC (.int (104)))) (gC (.int (48)))))) (gNext)) (gSeqS (gSet 4 (gOp hIx (gLst (gCons (gC (.int (1))) (gCons (gC (.int (4))) (gCons (gOp hPow (gC (.int (10))) (gC (.int (28)))) (gNil))))) (gOp hMod (gOp hIx (gVar 0) (gC (.int (2)))) (gC (.int (3)))))) (gSeqS (gSet 5 (gOp hIx (gLst (gCons (gC (.int (0))) (gCons (gOp hMod (gOp hDiv (gOp hIx (gVar 0) (gC (.int (2)))) (gC (.int (12)))) (gC (.int (100)))) (gCons (gOp hMod (gOp hIx (gVar 0) (gC (.int (3)))) (gOp hPow (gC (.int (10))) (gC (.int (29))))) (gNil))))) (gOp hMod (gOp hDiv (gOp hIx (gVar 0) (gC (.int (2)))) (gC (.int (3)))) (gC (.int (3)))))) (gSeqS (gSet 6 (gLst (gNil))) (gSeqS (gFor (gRng1 (gCons (gCB hMin3 (gCons (gVar 3) (gCons (gVar 1) (gCons (gOp hDiv (gOp hSub (gCB hLen (gCons (gVar 0) (gNil))) (gC (.int (4)))) (gC (.int (3)))) (gNil))))) (gNil))) (tgN 7) g_l_record_L1) (gRet (gTup (gCons (gVar 2) (gCons (gVar 6) (gNil))))))))))))
def f_l_record : List Dt → O Dt := fnN 10 g_l_record
end FamA
end T_FamA

section T_FamAP
set_option linter.all false
set_option maxRecDepth 100000
namespace FamA
open PySem Sim

abbrev B30 : Int := 1000000000000000000000000000000
theorem mixed_ok (cell k : Int) : ∃ z, f_l_mixed [.int cell, .int k] = .ok (.int z) ∧ 0 ≤ z ∧ z < 2147483647 := by
  unfold f_l_mixed fnN g_l_mixed
  simp (disch := omega) only [bnd_ok, gVar_def, gC_def, gOp_def, gUn_def, gNil_def, gCons_def, gIf_def, gTest_def, gNot_def, gAnd_def, gOr_def, gAndV_def, gOrV_def, gNotV_def, gCB_def, asB_b, hAdd_i, hSub_i, hLt_i, hLe_i, hGt_i, hGe_i, hMul_r, hMul_l, hMod_i, hDiv_s, hBand_i, hShr_i, hPow_10_18, hPow_10_27, hPow_10_28, hPow_10_29, hPow_10_30, hEq_i, hNe_i, hLen_l, hLen_t, hMin2_i, hMax2_i, hMin3_i, hInt1_b, hInt1_i, hBits_i, hListOf_l, hListOf_t, hTupOf_l, hTupOf_t, gSeqS_def, gSet_def, gRet_def, gIfS_def, gNext_def, gTup_def, gLst_def, List.getElem?_cons_zero, List.getElem?_cons_succ, List.set_cons_zero, List.set_cons_succ, List.length_cons, List.length_nil, Nat.zero_add, Nat.reduceAdd, Nat.reduceLeDiff, Nat.reduceSub, Nat.reduceMul, if_true, if_false, Bool.false_eq_true, List.replicate_succ, List.replicate_zero, List.cons_append, List.nil_append, tgN, tgT, tgCons, tgNil, Int.reducePow, Int.reduceAdd, Int.reduceSub, Int.reduceMul, decide_true, decide_false, Bool.not_true, Bool.not_false, gChain_def, hIsa_int, hIsa_intb, hIsa_list, hIsa_tuple, gDrop_def]
  exact ⟨_, rfl, by omega, by omega⟩
theorem ends_ok (n kind one other : Int) (hn : 1 ≤ n) : ∃ a b, f_l_ends [.int n, .int kind, .int one, .int other] = .ok (.tuple [.int a, .int b]) ∧ 0 ≤ a ∧ a < n ∧ 0 ≤ b ∧ b < n := by
  unfold f_l_ends fnN g_l_ends
  have m0 := fun x : Int => Int.emod_nonneg x (show n ≠ 0 by omega)
  have m1 := fun x : Int => Int.emod_lt_of_pos x (show 0 < n by omega)
  by_cases h0 : kind = 0
  · subst h0
    simp (disch := omega) only [bnd_ok, gVar_def, gC_def, gOp_def, gUn_def, gNil_def, gCons_def, gIf_def, gTest_def, gNot_def, gAnd_def, gOr_def, gAndV_def, gOrV_def, gNotV_def, gCB_def, asB_b, hAdd_i, hSub_i, hLt_i, hLe_i, hGt_i, hGe_i, hMul_r, hMul_l, hMod_i, hDiv_s, hBand_i, hShr_i, hPow_10_18, hPow_10_27, hPow_10_28, hPow_10_29, hPow_10_30, hEq_i, hNe_i, hLen_l, hLen_t, hMin2_i, hMax2_i, hMin3_i, hInt1_b, hInt1_i, hBits_i, hListOf_l, hListOf_t, hTupOf_l, hTupOf_t, gSeqS_def, gSet_def, gRet_def, gIfS_def, gNext_def, gTup_def, gLst_def, List.getElem?_cons_zero, List.getElem?_cons_succ, List.set_cons_zero, List.set_cons_succ, List.length_cons, List.length_nil, Nat.zero_add, Nat.reduceAdd, Nat.reduceLeDiff, Nat.reduceSub, Nat.reduceMul, if_true, if_false, Bool.false_eq_true, List.replicate_succ, List.replicate_zero, List.cons_append, List.nil_append, tgN, tgT, tgCons, tgNil, Int.reducePow, Int.reduceAdd, Int.reduceSub, Int.reduceMul, decide_true, decide_false, Bool.not_true, Bool.not_false, gChain_def, hIsa_int, hIsa_intb, hIsa_list, hIsa_tuple, gDrop_def, beq_self_eq_true]
    exact ⟨_, _, rfl, m0 _, m1 _, m0 _, m1 _⟩
  · have e0 : (kind == 0) = false := beq_eq_false_iff_ne.mpr h0
    by_cases h1 : kind = 1
    · subst h1
      have q3 : 0 < (if (3 : Int) < n then 3 else n) := by split <;> omega
      have q2 : 0 < (if (2 : Int) < n then 2 else n) := by split <;> omega
      have q3' : (if (3 : Int) < n then 3 else n) ≤ n := by split <;> omega
      have q2' : (if (2 : Int) < n then 2 else n) ≤ n := by split <;> omega
      have p0 := Int.emod_nonneg one (show (if (3 : Int) < n then 3 else n) ≠ 0 by omega)
      have p1 := Int.emod_lt_of_pos one q3
      have p2 := Int.emod_nonneg other (show (if (2 : Int) < n then 2 else n) ≠ 0 by omega)
      have p3 := Int.emod_lt_of_pos other q2
      simp (disch := first | assumption | omega) only [bnd_ok, gVar_def, gC_def, gOp_def, gUn_def, gNil_def, gCons_def, gIf_def, gTest_def, gNot_def, gAnd_def, gOr_def, gAndV_def, gOrV_def, gNotV_def, gCB_def, asB_b, hAdd_i, hSub_i, hLt_i, hLe_i, hGt_i, hGe_i, hMul_r, hMul_l, hMod_i, hDiv_s, hBand_i, hShr_i, hPow_10_18, hPow_10_27, hPow_10_28, hPow_10_29, hPow_10_30, hEq_i, hNe_i, hLen_l, hLen_t, hMin2_i, hMax2_i, hMin3_i, hInt1_b, hInt1_i, hBits_i, hListOf_l, hListOf_t, hTupOf_l, hTupOf_t, gSeqS_def, gSet_def, gRet_def, gIfS_def, gNext_def, gTup_def, gLst_def, List.getElem?_cons_zero, List.getElem?_cons_succ, List.set_cons_zero, List.set_cons_succ, List.length_cons, List.length_nil, Nat.zero_add, Nat.reduceAdd, Nat.reduceLeDiff, Nat.reduceSub, Nat.reduceMul, if_true, if_false, Bool.false_eq_true, List.replicate_succ, List.replicate_zero, List.cons_append, List.nil_append, tgN, tgT, tgCons, tgNil, Int.reducePow, Int.reduceAdd, Int.reduceSub, Int.reduceMul, decide_true, decide_false, Bool.not_true, Bool.not_false, gChain_def, hIsa_int, hIsa_intb, hIsa_list, hIsa_tuple, gDrop_def, beq_self_eq_true, e0]
      exact ⟨_, _, rfl, p0, Int.lt_of_lt_of_le p1 q3', p2, Int.lt_of_lt_of_le p3 q2'⟩
    · have e1 : (kind == 1) = false := beq_eq_false_iff_ne.mpr h1
      by_cases h2 : kind = 2
      · subst h2
        simp (disch := omega) only [bnd_ok, gVar_def, gC_def, gOp_def, gUn_def, gNil_def, gCons_def, gIf_def, gTest_def, gNot_def, gAnd_def, gOr_def, gAndV_def, gOrV_def, gNotV_def, gCB_def, asB_b, hAdd_i, hSub_i, hLt_i, hLe_i, hGt_i, hGe_i, hMul_r, hMul_l, hMod_i, hDiv_s, hBand_i, hShr_i, hPow_10_18, hPow_10_27, hPow_10_28, hPow_10_29, hPow_10_30, hEq_i, hNe_i, hLen_l, hLen_t, hMin2_i, hMax2_i, hMin3_i, hInt1_b, hInt1_i, hBits_i, hListOf_l, hListOf_t, hTupOf_l, hTupOf_t, gSeqS_def, gSet_def, gRet_def, gIfS_def, gNext_def, gTup_def, gLst_def, List.getElem?_cons_zero, List.getElem?_cons_succ, List.set_cons_zero, List.set_cons_succ, List.length_cons, List.length_nil, Nat.zero_add, Nat.reduceAdd, Nat.reduceLeDiff, Nat.reduceSub, Nat.reduceMul, if_true, if_false, Bool.false_eq_true, List.replicate_succ, List.replicate_zero, List.cons_append, List.nil_append, tgN, tgT, tgCons, tgNil, Int.reducePow, Int.reduceAdd, Int.reduceSub, Int.reduceMul, decide_true, decide_false, Bool.not_true, Bool.not_false, gChain_def, hIsa_int, hIsa_intb, hIsa_list, hIsa_tuple, gDrop_def, beq_self_eq_true, e0, e1]
        exact ⟨_, _, rfl, m0 _, m1 _, m0 _, m1 _⟩
      · have e2 : (kind == 2) = false := beq_eq_false_iff_ne.mpr h2
        simp (disch := omega) only [bnd_ok, gVar_def, gC_def, gOp_def, gUn_def, gNil_def, gCons_def, gIf_def, gTest_def, gNot_def, gAnd_def, gOr_def, gAndV_def, gOrV_def, gNotV_def, gCB_def, asB_b, hAdd_i, hSub_i, hLt_i, hLe_i, hGt_i, hGe_i, hMul_r, hMul_l, hMod_i, hDiv_s, hBand_i, hShr_i, hPow_10_18, hPow_10_27, hPow_10_28, hPow_10_29, hPow_10_30, hEq_i, hNe_i, hLen_l, hLen_t, hMin2_i, hMax2_i, hMin3_i, hInt1_b, hInt1_i, hBits_i, hListOf_l, hListOf_t, hTupOf_l, hTupOf_t, gSeqS_def, gSet_def, gRet_def, gIfS_def, gNext_def, gTup_def, gLst_def, List.getElem?_cons_zero, List.getElem?_cons_succ, List.set_cons_zero, List.set_cons_succ, List.length_cons, List.length_nil, Nat.zero_add, Nat.reduceAdd, Nat.reduceLeDiff, Nat.reduceSub, Nat.reduceMul, if_true, if_false, Bool.false_eq_true, List.replicate_succ, List.replicate_zero, List.cons_append, List.nil_append, tgN, tgT, tgCons, tgNil, Int.reducePow, Int.reduceAdd, Int.reduceSub, Int.reduceMul, decide_true, decide_false, Bool.not_true, Bool.not_false, gChain_def, hIsa_int, hIsa_intb, hIsa_list, hIsa_tuple, gDrop_def, e0, e1, e2]
        exact ⟨_, _, rfl, m0 _, m1 _, m0 _, m1 _⟩

theorem bits30 : Builtin.Int.intBits 1000000000000000000000000000000 = 100 := by decide +kernel
def wB : Gs := gSeqS (gSet 6 (gOp hAdd (gOp hMul (gVar 6) (gC (.int (2147483647)))) (gCallN 2 f_l_mixed (gCons (gVar 0) (gCons (gOp hAdd (gOp hMul (gC (.int (8))) (gVar 5)) (gVar 7)) (gNil)))))) (gSet 7 (gOp hAdd (gVar 7) (gC (.int (1)))))
def wT : List Dt → O Bool := gTest (gOp hLt (gOp hMul (gVar 7) (gC (.int (30)))) (gOp hAdd (gUn hBits (gVar 2)) (gC (.int (8)))))
theorem wB_ok (c k x t : Int) (a f l : Dt) : ∃ y, wB [.int c, a, .int B30, f, l, .int k, .int x, .int t] = .ok (.nx [.int c, a, .int B30, f, l, .int k, .int y, .int (t + 1)]) := by
  obtain ⟨z, hz, _, _⟩ := mixed_ok c (8 * k + t)
  unfold wB
  have h1 : gCallN 2 f_l_mixed (gCons (gVar 0) (gCons (gOp hAdd (gOp hMul (gC (.int (8))) (gVar 5)) (gVar 7)) (gNil))) [.int c, a, .int B30, f, l, .int k, .int x, .int t] = .ok (.int z) := by
    refine callN_ok (ds := [.int c, .int (8 * k + t)]) ?_ rfl hz
    simp (disch := omega) only [bnd_ok, gVar_def, gC_def, gOp_def, gUn_def, gNil_def, gCons_def, gIf_def, gTest_def, gNot_def, gAnd_def, gOr_def, gAndV_def, gOrV_def, gNotV_def, gCB_def, asB_b, hAdd_i, hSub_i, hLt_i, hLe_i, hGt_i, hGe_i, hMul_r, hMul_l, hMod_i, hDiv_s, hBand_i, hShr_i, hPow_10_18, hPow_10_27, hPow_10_28, hPow_10_29, hPow_10_30, hEq_i, hNe_i, hLen_l, hLen_t, hMin2_i, hMax2_i, hMin3_i, hInt1_b, hInt1_i, hBits_i, hListOf_l, hListOf_t, hTupOf_l, hTupOf_t, gSeqS_def, gSet_def, gRet_def, gIfS_def, gNext_def, gTup_def, gLst_def, List.getElem?_cons_zero, List.getElem?_cons_succ, List.set_cons_zero, List.set_cons_succ, List.length_cons, List.length_nil, Nat.zero_add, Nat.reduceAdd, Nat.reduceLeDiff, Nat.reduceSub, Nat.reduceMul, if_true, if_false, Bool.false_eq_true, List.replicate_succ, List.replicate_zero, List.cons_append, List.nil_append, tgN, tgT, tgCons, tgNil, Int.reducePow, Int.reduceAdd, Int.reduceSub, Int.reduceMul, decide_true, decide_false, Bool.not_true, Bool.not_false, gChain_def, hIsa_int, hIsa_intb, hIsa_list, hIsa_tuple, gDrop_def]
  simp (disch := omega) only [bnd_ok, gVar_def, gC_def, gOp_def, gUn_def, gNil_def, gCons_def, gIf_def, gTest_def, gNot_def, gAnd_def, gOr_def, gAndV_def, gOrV_def, gNotV_def, gCB_def, asB_b, hAdd_i, hSub_i, hLt_i, hLe_i, hGt_i, hGe_i, hMul_r, hMul_l, hMod_i, hDiv_s, hBand_i, hShr_i, hPow_10_18, hPow_10_27, hPow_10_28, hPow_10_29, hPow_10_30, hEq_i, hNe_i, hLen_l, hLen_t, hMin2_i, hMax2_i, hMin3_i, hInt1_b, hInt1_i, hBits_i, hListOf_l, hListOf_t, hTupOf_l, hTupOf_t, gSeqS_def, gSet_def, gRet_def, gIfS_def, gNext_def, gTup_def, gLst_def, List.getElem?_cons_zero, List.getElem?_cons_succ, List.set_cons_zero, List.set_cons_succ, List.length_cons, List.length_nil, Nat.zero_add, Nat.reduceAdd, Nat.reduceLeDiff, Nat.reduceSub, Nat.reduceMul, if_true, if_false, Bool.false_eq_true, List.replicate_succ, List.replicate_zero, List.cons_append, List.nil_append, tgN, tgT, tgCons, tgNil, Int.reducePow, Int.reduceAdd, Int.reduceSub, Int.reduceMul, decide_true, decide_false, Bool.not_true, Bool.not_false, gChain_def, hIsa_int, hIsa_intb, hIsa_list, hIsa_tuple, gDrop_def, h1]
  exact ⟨_, rfl⟩
theorem wT_ok (c k x t : Int) (a f l : Dt) : wT [.int c, a, .int B30, f, l, .int k, .int x, .int t] = .ok (decide (t * 30 < 108)) := by
  unfold wT
  simp (disch := omega) only [bnd_ok, gVar_def, gC_def, gOp_def, gUn_def, gNil_def, gCons_def, gIf_def, gTest_def, gNot_def, gAnd_def, gOr_def, gAndV_def, gOrV_def, gNotV_def, gCB_def, asB_b, hAdd_i, hSub_i, hLt_i, hLe_i, hGt_i, hGe_i, hMul_r, hMul_l, hMod_i, hDiv_s, hBand_i, hShr_i, hPow_10_18, hPow_10_27, hPow_10_28, hPow_10_29, hPow_10_30, hEq_i, hNe_i, hLen_l, hLen_t, hMin2_i, hMax2_i, hMin3_i, hInt1_b, hInt1_i, hBits_i, hListOf_l, hListOf_t, hTupOf_l, hTupOf_t, gSeqS_def, gSet_def, gRet_def, gIfS_def, gNext_def, gTup_def, gLst_def, List.getElem?_cons_zero, List.getElem?_cons_succ, List.set_cons_zero, List.set_cons_succ, List.length_cons, List.length_nil, Nat.zero_add, Nat.reduceAdd, Nat.reduceLeDiff, Nat.reduceSub, Nat.reduceMul, if_true, if_false, Bool.false_eq_true, List.replicate_succ, List.replicate_zero, List.cons_append, List.nil_append, tgN, tgT, tgCons, tgNil, Int.reducePow, Int.reduceAdd, Int.reduceSub, Int.reduceMul, decide_true, decide_false, Bool.not_true, Bool.not_false, gChain_def, hIsa_int, hIsa_intb, hIsa_list, hIsa_tuple, gDrop_def, bits30]
  rfl
theorem wh_ok (c k : Int) (a f l : Dt) : ∃ y, gWhile wT wB 100 [.int c, a, .int B30, f, l, .int k, .int 0, .int 0] = .ok (.nx [.int c, a, .int B30, f, l, .int k, .int y, .int 4]) := by
  obtain ⟨y1, h1⟩ := wB_ok c k 0 0 a f l
  obtain ⟨y2, h2⟩ := wB_ok c k y1 1 a f l
  obtain ⟨y3, h3⟩ := wB_ok c k y2 2 a f l
  obtain ⟨y4, h4⟩ := wB_ok c k y3 3 a f l
  refine ⟨y4, ?_⟩
  rw [while_t (n := 99) (wT_ok c k 0 0 a f l) h1]
  show gWhile wT wB 99 [.int c, a, .int B30, f, l, .int k, .int y1, .int 1] = _
  rw [while_t (n := 98) (wT_ok c k y1 1 a f l) h2]
  show gWhile wT wB 98 [.int c, a, .int B30, f, l, .int k, .int y2, .int 2] = _
  rw [while_t (n := 97) (wT_ok c k y2 2 a f l) h3]
  show gWhile wT wB 97 [.int c, a, .int B30, f, l, .int k, .int y3, .int 3] = _
  rw [while_t (n := 96) (wT_ok c k y3 3 a f l) h4]
  exact while_f (wT_ok c k y4 4 a f l)
theorem numbers_ok (cell many : Int) (h0 : 0 ≤ many) (h1 : many ≤ 1000) : ∃ xs : List Int, f_l_numbers [.int cell, .int many, .int B30] = .ok (.list (xs.map .int)) ∧ xs.length = many.toNat ∧ ∀ x ∈ xs, 0 ≤ x ∧ x < B30 := by
  obtain ⟨n, rfl⟩ : ∃ n : Nat, many = n := ⟨many.toNat, by omega⟩
  obtain ⟨ρ', hf, xs, l, d5, d6, d7, rfl, hl, hx⟩ := forE_ix (fun (k : Nat) => PyData.int (k : Int)) (h := tgN 5)
    (b := gSeqS (gSet 6 (gVar 4)) (gSeqS (gIfS (gTest (gOp hGt (gVar 4) (gC (.int (0))))) (gSet 4 (gOp hDiv (gVar 4) (gVar 2))) (gSeqS (gSet 6 (gC (.int (0)))) (gSeqS (gSet 7 (gC (.int (0)))) (gWhile wT wB 100)))) (gApp 3 (gOp hMod (gVar 6) (gVar 2)))))
    (List.range n) (fun i ρ => ∃ (xs : List Int) (l : Int) (d5 d6 d7 : Dt), ρ = [.int cell, .int n, .int B30, .list (xs.map .int), .int l, d5, d6, d7] ∧ xs.length = i ∧ ∀ x ∈ xs, 0 ≤ x ∧ x < B30)
    (ρ := [.int cell, .int n, .int B30, .list [], .int (cell - 1000000000000000000), .none, .none, .none]) ⟨[], _, _, _, _, rfl, rfl, by simp⟩ (by
      rintro i ρ hi ⟨xs, l, d5, d6, d7, rfl, hl, hx⟩
      rw [List.getElem_range]
      rw [List.length_range] at hi
      have app : ∀ (l x : Int) (d7 : Dt), gApp 3 (gOp hMod (gVar 6) (gVar 2)) [.int cell, .int n, .int B30, .list (xs.map .int), .int l, .int i, .int x, d7] = .ok (.nx [.int cell, .int n, .int B30, .list ((xs ++ [x % B30]).map .int), .int l, .int i, .int x, d7]) := fun l x d7 => by
        refine (gApp_l (ds := xs.map .int) (d := .int (x % B30)) rfl ?_ (by rw [List.length_map]; omega)).trans ?_
        · simp (disch := first | omega | decide) only [bnd_ok, gVar_def, gC_def, gOp_def, gUn_def, gNil_def, gCons_def, gIf_def, gTest_def, gNot_def, gAnd_def, gOr_def, gAndV_def, gOrV_def, gNotV_def, gCB_def, asB_b, hAdd_i, hSub_i, hLt_i, hLe_i, hGt_i, hGe_i, hMul_r, hMul_l, hMod_i, hDiv_s, hBand_i, hShr_i, hPow_10_18, hPow_10_27, hPow_10_28, hPow_10_29, hPow_10_30, hEq_i, hNe_i, hLen_l, hLen_t, hMin2_i, hMax2_i, hMin3_i, hInt1_b, hInt1_i, hBits_i, hListOf_l, hListOf_t, hTupOf_l, hTupOf_t, gSeqS_def, gSet_def, gRet_def, gIfS_def, gNext_def, gTup_def, gLst_def, List.getElem?_cons_zero, List.getElem?_cons_succ, List.set_cons_zero, List.set_cons_succ, List.length_cons, List.length_nil, Nat.zero_add, Nat.reduceAdd, Nat.reduceLeDiff, Nat.reduceSub, Nat.reduceMul, if_true, if_false, Bool.false_eq_true, List.replicate_succ, List.replicate_zero, List.cons_append, List.nil_append, tgN, tgT, tgCons, tgNil, Int.reducePow, Int.reduceAdd, Int.reduceSub, Int.reduceMul, decide_true, decide_false, Bool.not_true, Bool.not_false, gChain_def, hIsa_int, hIsa_intb, hIsa_list, hIsa_tuple, gDrop_def]
        · rw [map_snoc]; rfl
      have fin : ∀ (x : Int), ∀ y ∈ xs ++ [x % B30], 0 ≤ y ∧ y < B30 := fun x y hy => by
        rcases List.mem_append.mp hy with h | h
        · exact hx y h
        · have := List.mem_singleton.mp h
          subst this
          unfold B30
          constructor <;> omega
      by_cases hp : 0 < l
      · refine ⟨_, _, rfl, .inl ?_, xs ++ [l % B30], l / B30, .int i, .int l, d7, rfl, by rw [List.length_append, hl]; rfl, fin l⟩
        have e : decide (0 < l) = true := decide_eq_true hp
        simp (disch := first | omega | decide) only [bnd_ok, gVar_def, gC_def, gOp_def, gUn_def, gNil_def, gCons_def, gIf_def, gTest_def, gNot_def, gAnd_def, gOr_def, gAndV_def, gOrV_def, gNotV_def, gCB_def, asB_b, hAdd_i, hSub_i, hLt_i, hLe_i, hGt_i, hGe_i, hMul_r, hMul_l, hMod_i, hDiv_s, hBand_i, hShr_i, hPow_10_18, hPow_10_27, hPow_10_28, hPow_10_29, hPow_10_30, hEq_i, hNe_i, hLen_l, hLen_t, hMin2_i, hMax2_i, hMin3_i, hInt1_b, hInt1_i, hBits_i, hListOf_l, hListOf_t, hTupOf_l, hTupOf_t, gSeqS_def, gSet_def, gRet_def, gIfS_def, gNext_def, gTup_def, gLst_def, List.getElem?_cons_zero, List.getElem?_cons_succ, List.set_cons_zero, List.set_cons_succ, List.length_cons, List.length_nil, Nat.zero_add, Nat.reduceAdd, Nat.reduceLeDiff, Nat.reduceSub, Nat.reduceMul, if_true, if_false, Bool.false_eq_true, List.replicate_succ, List.replicate_zero, List.cons_append, List.nil_append, tgN, tgT, tgCons, tgNil, Int.reducePow, Int.reduceAdd, Int.reduceSub, Int.reduceMul, decide_true, decide_false, Bool.not_true, Bool.not_false, gChain_def, hIsa_int, hIsa_intb, hIsa_list, hIsa_tuple, gDrop_def, e, app]
      · obtain ⟨y, hy⟩ := wh_ok cell i (.int n) (.list (xs.map .int)) (.int l)
        refine ⟨_, _, rfl, .inl ?_, xs ++ [y % B30], l, .int i, .int y, .int 4, rfl, by rw [List.length_append, hl]; rfl, fin y⟩
        have e : decide (0 < l) = false := decide_eq_false hp
        simp (disch := first | omega | decide) only [bnd_ok, gVar_def, gC_def, gOp_def, gUn_def, gNil_def, gCons_def, gIf_def, gTest_def, gNot_def, gAnd_def, gOr_def, gAndV_def, gOrV_def, gNotV_def, gCB_def, asB_b, hAdd_i, hSub_i, hLt_i, hLe_i, hGt_i, hGe_i, hMul_r, hMul_l, hMod_i, hDiv_s, hBand_i, hShr_i, hPow_10_18, hPow_10_27, hPow_10_28, hPow_10_29, hPow_10_30, hEq_i, hNe_i, hLen_l, hLen_t, hMin2_i, hMax2_i, hMin3_i, hInt1_b, hInt1_i, hBits_i, hListOf_l, hListOf_t, hTupOf_l, hTupOf_t, gSeqS_def, gSet_def, gRet_def, gIfS_def, gNext_def, gTup_def, gLst_def, List.getElem?_cons_zero, List.getElem?_cons_succ, List.set_cons_zero, List.set_cons_succ, List.length_cons, List.length_nil, Nat.zero_add, Nat.reduceAdd, Nat.reduceLeDiff, Nat.reduceSub, Nat.reduceMul, if_true, if_false, Bool.false_eq_true, List.replicate_succ, List.replicate_zero, List.cons_append, List.nil_append, tgN, tgT, tgCons, tgNil, Int.reducePow, Int.reduceAdd, Int.reduceSub, Int.reduceMul, decide_true, decide_false, Bool.not_true, Bool.not_false, gChain_def, hIsa_int, hIsa_intb, hIsa_list, hIsa_tuple, gDrop_def, e, hy, app])
  refine ⟨xs, ?_, by rw [hl, List.length_range]; omega, hx⟩
  refine fnL_rt ?_
  show g_l_numbers [.int cell, .int n, .int B30, .none, .none, .none, .none, .none] = _
  unfold g_l_numbers
  have e1 : gSet 3 (gLst gNil) [.int cell, .int n, .int B30, .none, .none, .none, .none, .none] = .ok (.nx [.int cell, .int n, .int B30, .list [], .none, .none, .none, .none]) := by
    simp (disch := first | omega | decide) only [bnd_ok, gVar_def, gC_def, gOp_def, gUn_def, gNil_def, gCons_def, gIf_def, gTest_def, gNot_def, gAnd_def, gOr_def, gAndV_def, gOrV_def, gNotV_def, gCB_def, asB_b, hAdd_i, hSub_i, hLt_i, hLe_i, hGt_i, hGe_i, hMul_r, hMul_l, hMod_i, hDiv_s, hBand_i, hShr_i, hPow_10_18, hPow_10_27, hPow_10_28, hPow_10_29, hPow_10_30, hEq_i, hNe_i, hLen_l, hLen_t, hMin2_i, hMax2_i, hMin3_i, hInt1_b, hInt1_i, hBits_i, hListOf_l, hListOf_t, hTupOf_l, hTupOf_t, gSeqS_def, gSet_def, gRet_def, gIfS_def, gNext_def, gTup_def, gLst_def, List.getElem?_cons_zero, List.getElem?_cons_succ, List.set_cons_zero, List.set_cons_succ, List.length_cons, List.length_nil, Nat.zero_add, Nat.reduceAdd, Nat.reduceLeDiff, Nat.reduceSub, Nat.reduceMul, if_true, if_false, Bool.false_eq_true, List.replicate_succ, List.replicate_zero, List.cons_append, List.nil_append, tgN, tgT, tgCons, tgNil, Int.reducePow, Int.reduceAdd, Int.reduceSub, Int.reduceMul, decide_true, decide_false, Bool.not_true, Bool.not_false, gChain_def, hIsa_int, hIsa_intb, hIsa_list, hIsa_tuple, gDrop_def, Nat.zero_le]
  rw [seq_nx e1]
  have e2 : gSet 4 (gOp hSub (gVar 0) (gOp hPow (gC (.int 10)) (gC (.int 18)))) [.int cell, .int n, .int B30, .list [], .none, .none, .none, .none] = .ok (.nx [.int cell, .int n, .int B30, .list [], .int (cell - 1000000000000000000), .none, .none, .none]) := by
    simp (disch := first | omega | decide) only [bnd_ok, gVar_def, gC_def, gOp_def, gUn_def, gNil_def, gCons_def, gIf_def, gTest_def, gNot_def, gAnd_def, gOr_def, gAndV_def, gOrV_def, gNotV_def, gCB_def, asB_b, hAdd_i, hSub_i, hLt_i, hLe_i, hGt_i, hGe_i, hMul_r, hMul_l, hMod_i, hDiv_s, hBand_i, hShr_i, hPow_10_18, hPow_10_27, hPow_10_28, hPow_10_29, hPow_10_30, hEq_i, hNe_i, hLen_l, hLen_t, hMin2_i, hMax2_i, hMin3_i, hInt1_b, hInt1_i, hBits_i, hListOf_l, hListOf_t, hTupOf_l, hTupOf_t, gSeqS_def, gSet_def, gRet_def, gIfS_def, gNext_def, gTup_def, gLst_def, List.getElem?_cons_zero, List.getElem?_cons_succ, List.set_cons_zero, List.set_cons_succ, List.length_cons, List.length_nil, Nat.zero_add, Nat.reduceAdd, Nat.reduceLeDiff, Nat.reduceSub, Nat.reduceMul, if_true, if_false, Bool.false_eq_true, List.replicate_succ, List.replicate_zero, List.cons_append, List.nil_append, tgN, tgT, tgCons, tgNil, Int.reducePow, Int.reduceAdd, Int.reduceSub, Int.reduceMul, decide_true, decide_false, Bool.not_true, Bool.not_false, gChain_def, hIsa_int, hIsa_intb, hIsa_list, hIsa_tuple, gDrop_def]
  rw [seq_nx e2]
  have e3 : gRng1 (gCons (gVar 1) gNil) [.int cell, .int n, .int B30, .list [], .int (cell - 1000000000000000000), .none, .none, .none] = .ok ((List.range n).map fun (k : Nat) => PyData.int (k : Int)) := by
    rw [← rangeD_nat]
    refine rng1_ok ?_ (by omega) (by omega)
    simp (disch := first | omega | decide) only [bnd_ok, gVar_def, gC_def, gOp_def, gUn_def, gNil_def, gCons_def, gIf_def, gTest_def, gNot_def, gAnd_def, gOr_def, gAndV_def, gOrV_def, gNotV_def, gCB_def, asB_b, hAdd_i, hSub_i, hLt_i, hLe_i, hGt_i, hGe_i, hMul_r, hMul_l, hMod_i, hDiv_s, hBand_i, hShr_i, hPow_10_18, hPow_10_27, hPow_10_28, hPow_10_29, hPow_10_30, hEq_i, hNe_i, hLen_l, hLen_t, hMin2_i, hMax2_i, hMin3_i, hInt1_b, hInt1_i, hBits_i, hListOf_l, hListOf_t, hTupOf_l, hTupOf_t, gSeqS_def, gSet_def, gRet_def, gIfS_def, gNext_def, gTup_def, gLst_def, List.getElem?_cons_zero, List.getElem?_cons_succ, List.set_cons_zero, List.set_cons_succ, List.length_cons, List.length_nil, Nat.zero_add, Nat.reduceAdd, Nat.reduceLeDiff, Nat.reduceSub, Nat.reduceMul, if_true, if_false, Bool.false_eq_true, List.replicate_succ, List.replicate_zero, List.cons_append, List.nil_append, tgN, tgT, tgCons, tgNil, Int.reducePow, Int.reduceAdd, Int.reduceSub, Int.reduceMul, decide_true, decide_false, Bool.not_true, Bool.not_false, gChain_def, hIsa_int, hIsa_intb, hIsa_list, hIsa_tuple, gDrop_def]
  exact (seq_nx (b := gRet (gVar 3)) (for_ok e3 hf)).trans rfl

/-! ### records -/
abbrev T3 := Int × Int × Int
def enc3 (t : T3) : Dt := .tuple [.int t.1, .int t.2.1, .int t.2.2]
structure TieOk (n : Int) (t : T3) : Prop where
  m0 : 0 ≤ t.1
  m1 : t.1 < B30
  a0 : 0 ≤ t.2.1
  ab : t.2.1 ≤ t.2.2
  bn : t.2.2 < n
structure RecOk (n : Int) (r : List T3) : Prop where
  len : r.length ≤ 60
  ties : ∀ t ∈ r, TieOk n t
  ord : r.Pairwise fun s t => s.1 < t.1
theorem ix_ok {ns : List Int} (hns : ∀ x ∈ ns, 0 ≤ x ∧ x < B30) {i : Int} (h0 : 0 ≤ i) (h1 : i < ns.length) : ∃ x, hIx (.list (ns.map .int)) (.int i) = .ok (.int x) ∧ 0 ≤ x ∧ x < B30 :=
  ⟨_, hIx_ints h0 h1, hns _ (List.getElem_mem _)⟩
theorem ix3 (a b c i : Int) (h0 : 0 ≤ i) (h1 : i < 3) : hIx (.list [.int a, .int b, .int c]) (.int i) = .ok (.int (if i = 0 then a else if i = 1 then b else c)) := by
  have : i = 0 ∨ i = 1 ∨ i = 2 := by omega
  rcases this with rfl | rfl | rfl <;> rfl
theorem map3_snoc (r : List T3) (t : T3) : r.map enc3 ++ [enc3 t] = (r ++ [t]).map enc3 := by rw [List.map_append]; rfl
def rB : Gs := (gSeqS (gAsg (gCallN 4 f_l_ends (gCons (gVar 2) (gCons (gOp hMod (gOp hIx (gVar 0) (gC (.int (3)))) (gC (.int (4)))) (gCons (gOp hIx (gVar 0) (gOp hAdd (gC (.int (4))) (gOp hMul (gC (.int (3))) (gVar 7)))) (gCons (gOp hIx (gVar 0) (gOp hAdd (gC (.int (5))) (gOp hMul (gC (.int (3))) (gVar 7)))) (gNil)))))) (tgT (tgCons (tgN 8) (tgCons (tgN 9) (tgNil))))) (gSeqS (gApp 6 (gTup (gCons (gVar 5) (gCons (gCB hMin2 (gCons (gVar 8) (gCons (gVar 9) (gNil)))) (gCons (gCB hMax2 (gCons (gVar 8) (gCons (gVar 9) (gNil)))) (gNil)))))) (gSet 5 (gOp hAdd (gOp hAdd (gVar 5) (gC (.int (1)))) (gOp hMod (gOp hIx (gVar 0) (gOp hAdd (gC (.int (6))) (gOp hMul (gC (.int (3))) (gVar 7)))) (gVar 4))))))
theorem rB_ok {ns : List Int} (hns : ∀ x ∈ ns, 0 ≤ x ∧ x < B30) (hl : 4 ≤ ns.length) {k : Nat} (hk : 3 * k + 6 < ns.length) {n : Int} (hn : 1 ≤ n) {wd m : Int} (hw : 0 < wd) (hm : 0 ≤ m) {r : List T3} (hr : r.length < 100) (mo : Dt) (c d8 d9 : Dt) :
    ∃ t m' q8 q9, rB [.list (ns.map .int), mo, .int n, c, .int wd, .int m, .list (r.map enc3), .int k, d8, d9] = .ok (.nx [.list (ns.map .int), mo, .int n, c, .int wd, .int m', .list ((r ++ [t]).map enc3), .int k, q8, q9])
      ∧ t.1 = m ∧ 0 ≤ t.2.1 ∧ t.2.1 ≤ t.2.2 ∧ t.2.2 < n ∧ m < m' ∧ m' ≤ m + wd := by
  obtain ⟨x3, e3, _⟩ := ix_ok hns (i := 3) (by omega) (by omega)
  obtain ⟨x4, e4, _⟩ := ix_ok hns (i := 4 + 3 * (k : Int)) (by omega) (by omega)
  obtain ⟨x5, e5, _⟩ := ix_ok hns (i := 5 + 3 * (k : Int)) (by omega) (by omega)
  obtain ⟨x6, e6, _⟩ := ix_ok hns (i := 6 + 3 * (k : Int)) (by omega) (by omega)
  obtain ⟨a, b, he, ha0, ha, hb0, hb⟩ := ends_ok n (x3 % 4) x4 x5 hn
  have w0 := Int.emod_nonneg x6 (show wd ≠ 0 by omega)
  have w1 := Int.emod_lt_of_pos x6 hw
  have c1 : gAsg (gCallN 4 f_l_ends (gCons (gVar 2) (gCons (gOp hMod (gOp hIx (gVar 0) (gC (.int (3)))) (gC (.int (4)))) (gCons (gOp hIx (gVar 0) (gOp hAdd (gC (.int (4))) (gOp hMul (gC (.int (3))) (gVar 7)))) (gCons (gOp hIx (gVar 0) (gOp hAdd (gC (.int (5))) (gOp hMul (gC (.int (3))) (gVar 7)))) (gNil)))))) (tgT (tgCons (tgN 8) (tgCons (tgN 9) (tgNil))))
      [.list (ns.map .int), mo, .int n, c, .int wd, .int m, .list (r.map enc3), .int k, d8, d9] = .ok (.nx [.list (ns.map .int), mo, .int n, c, .int wd, .int m, .list (r.map enc3), .int k, .int a, .int b]) := by
    refine asg_ok (callN_ok (ds := [.int n, .int (x3 % 4), .int x4, .int x5]) ?_ rfl he) ?_
    · simp (disch := omega) only [bnd_ok, gVar_def, gC_def, gOp_def, gUn_def, gNil_def, gCons_def, gIf_def, gTest_def, gNot_def, gAnd_def, gOr_def, gAndV_def, gOrV_def, gNotV_def, gCB_def, asB_b, hAdd_i, hSub_i, hLt_i, hLe_i, hGt_i, hGe_i, hMul_r, hMul_l, hMod_i, hDiv_s, hBand_i, hShr_i, hPow_10_18, hPow_10_27, hPow_10_28, hPow_10_29, hPow_10_30, hEq_i, hNe_i, hLen_l, hLen_t, hMin2_i, hMax2_i, hMin3_i, hInt1_b, hInt1_i, hBits_i, hListOf_l, hListOf_t, hTupOf_l, hTupOf_t, gSeqS_def, gSet_def, gRet_def, gIfS_def, gNext_def, gTup_def, gLst_def, List.getElem?_cons_zero, List.getElem?_cons_succ, List.set_cons_zero, List.set_cons_succ, List.length_cons, List.length_nil, Nat.zero_add, Nat.reduceAdd, Nat.reduceLeDiff, Nat.reduceSub, Nat.reduceMul, if_true, if_false, Bool.false_eq_true, List.replicate_succ, List.replicate_zero, List.cons_append, List.nil_append, tgN, tgT, tgCons, tgNil, Int.reducePow, Int.reduceAdd, Int.reduceSub, Int.reduceMul, decide_true, decide_false, Bool.not_true, Bool.not_false, gChain_def, hIsa_int, hIsa_intb, hIsa_list, hIsa_tuple, gDrop_def, e3, e4, e5]
    · simp only [bnd_ok, gVar_def, gC_def, gOp_def, gUn_def, gNil_def, gCons_def, gIf_def, gTest_def, gNot_def, gAnd_def, gOr_def, gAndV_def, gOrV_def, gNotV_def, gCB_def, asB_b, hAdd_i, hSub_i, hLt_i, hLe_i, hGt_i, hGe_i, hMul_r, hMul_l, hMod_i, hDiv_s, hBand_i, hShr_i, hPow_10_18, hPow_10_27, hPow_10_28, hPow_10_29, hPow_10_30, hEq_i, hNe_i, hLen_l, hLen_t, hMin2_i, hMax2_i, hMin3_i, hInt1_b, hInt1_i, hBits_i, hListOf_l, hListOf_t, hTupOf_l, hTupOf_t, gSeqS_def, gSet_def, gRet_def, gIfS_def, gNext_def, gTup_def, gLst_def, List.getElem?_cons_zero, List.getElem?_cons_succ, List.set_cons_zero, List.set_cons_succ, List.length_cons, List.length_nil, Nat.zero_add, Nat.reduceAdd, Nat.reduceLeDiff, Nat.reduceSub, Nat.reduceMul, if_true, if_false, Bool.false_eq_true, List.replicate_succ, List.replicate_zero, List.cons_append, List.nil_append, tgN, tgT, tgCons, tgNil, Int.reducePow, Int.reduceAdd, Int.reduceSub, Int.reduceMul, decide_true, decide_false, Bool.not_true, Bool.not_false, gChain_def, hIsa_int, hIsa_intb, hIsa_list, hIsa_tuple, gDrop_def]
  have c2 : gApp 6 (gTup (gCons (gVar 5) (gCons (gCB hMin2 (gCons (gVar 8) (gCons (gVar 9) (gNil)))) (gCons (gCB hMax2 (gCons (gVar 8) (gCons (gVar 9) (gNil)))) (gNil)))))
      [.list (ns.map .int), mo, .int n, c, .int wd, .int m, .list (r.map enc3), .int k, .int a, .int b] = .ok (.nx [.list (ns.map .int), mo, .int n, c, .int wd, .int m, .list ((r ++ [(m, (if b < a then b else a), (if b > a then b else a))]).map enc3), .int k, .int a, .int b]) := by
    refine (gApp_l (ds := r.map enc3) (d := enc3 (m, (if b < a then b else a), (if b > a then b else a))) rfl ?_ (by rw [List.length_map]; omega)).trans ?_
    · simp (disch := omega) only [bnd_ok, gVar_def, gC_def, gOp_def, gUn_def, gNil_def, gCons_def, gIf_def, gTest_def, gNot_def, gAnd_def, gOr_def, gAndV_def, gOrV_def, gNotV_def, gCB_def, asB_b, hAdd_i, hSub_i, hLt_i, hLe_i, hGt_i, hGe_i, hMul_r, hMul_l, hMod_i, hDiv_s, hBand_i, hShr_i, hPow_10_18, hPow_10_27, hPow_10_28, hPow_10_29, hPow_10_30, hEq_i, hNe_i, hLen_l, hLen_t, hMin2_i, hMax2_i, hMin3_i, hInt1_b, hInt1_i, hBits_i, hListOf_l, hListOf_t, hTupOf_l, hTupOf_t, gSeqS_def, gSet_def, gRet_def, gIfS_def, gNext_def, gTup_def, gLst_def, List.getElem?_cons_zero, List.getElem?_cons_succ, List.set_cons_zero, List.set_cons_succ, List.length_cons, List.length_nil, Nat.zero_add, Nat.reduceAdd, Nat.reduceLeDiff, Nat.reduceSub, Nat.reduceMul, if_true, if_false, Bool.false_eq_true, List.replicate_succ, List.replicate_zero, List.cons_append, List.nil_append, tgN, tgT, tgCons, tgNil, Int.reducePow, Int.reduceAdd, Int.reduceSub, Int.reduceMul, decide_true, decide_false, Bool.not_true, Bool.not_false, gChain_def, hIsa_int, hIsa_intb, hIsa_list, hIsa_tuple, gDrop_def]
      rfl
    · rw [map3_snoc]; rfl
  unfold rB
  rw [seq_nx c1, seq_nx c2]
  refine ⟨(m, (if b < a then b else a), (if b > a then b else a)), m + 1 + x6 % wd, .int a, .int b, ?_, rfl, ?_, ?_, ?_, by omega, by omega⟩
  · simp (disch := omega) only [bnd_ok, gVar_def, gC_def, gOp_def, gUn_def, gNil_def, gCons_def, gIf_def, gTest_def, gNot_def, gAnd_def, gOr_def, gAndV_def, gOrV_def, gNotV_def, gCB_def, asB_b, hAdd_i, hSub_i, hLt_i, hLe_i, hGt_i, hGe_i, hMul_r, hMul_l, hMod_i, hDiv_s, hBand_i, hShr_i, hPow_10_18, hPow_10_27, hPow_10_28, hPow_10_29, hPow_10_30, hEq_i, hNe_i, hLen_l, hLen_t, hMin2_i, hMax2_i, hMin3_i, hInt1_b, hInt1_i, hBits_i, hListOf_l, hListOf_t, hTupOf_l, hTupOf_t, gSeqS_def, gSet_def, gRet_def, gIfS_def, gNext_def, gTup_def, gLst_def, List.getElem?_cons_zero, List.getElem?_cons_succ, List.set_cons_zero, List.set_cons_succ, List.length_cons, List.length_nil, Nat.zero_add, Nat.reduceAdd, Nat.reduceLeDiff, Nat.reduceSub, Nat.reduceMul, if_true, if_false, Bool.false_eq_true, List.replicate_succ, List.replicate_zero, List.cons_append, List.nil_append, tgN, tgT, tgCons, tgNil, Int.reducePow, Int.reduceAdd, Int.reduceSub, Int.reduceMul, decide_true, decide_false, Bool.not_true, Bool.not_false, gChain_def, hIsa_int, hIsa_intb, hIsa_list, hIsa_tuple, gDrop_def, e6]
  · show 0 ≤ (if b < a then b else a)
    split <;> omega
  · show (if b < a then b else a) ≤ (if b > a then b else a)
    split <;> split <;> omega
  · show (if b > a then b else a) < n
    split <;> omega
theorem rec_snoc {n : Int} {r : List T3} {t : T3} (h : ∀ t ∈ r, TieOk n t) (o : r.Pairwise fun s t => s.1 < t.1) (ht : TieOk n t) (hlt : ∀ s ∈ r, s.1 < t.1) : (∀ s ∈ r ++ [t], TieOk n s) ∧ (r ++ [t]).Pairwise fun s t => s.1 < t.1 := by
  refine ⟨fun s hs => ?_, List.pairwise_append.mpr ⟨o, List.pairwise_singleton _ _, fun a ha b hb => ?_⟩⟩
  · rcases List.mem_append.mp hs with h' | h'
    · exact h s h'
    · rw [List.mem_singleton.mp h']; exact ht
  · rw [List.mem_singleton.mp hb]
    exact hlt a ha
theorem record_ok {ns : List Int} {most : Int} (hns : ∀ x ∈ ns, 0 ≤ x ∧ x < B30) (hl : 4 ≤ ns.length) (hl2 : ns.length ≤ 1000) (h0 : 0 ≤ most) (h1 : most ≤ 60) :
    ∃ n r, f_l_record [.list (ns.map .int), .int most] = .ok (.tuple [.int n, .list (r.map enc3)]) ∧ 1 ≤ n ∧ n ≤ 10 ∧ RecOk n r ∧ (r.length : Int) ≤ most := by
  obtain ⟨x0, e0, b0⟩ := ix_ok hns (i := 0) (by omega) (by omega)
  obtain ⟨x1, e1, b1⟩ := ix_ok hns (i := 1) (by omega) (by omega)
  obtain ⟨x2, e2, b2⟩ := ix_ok hns (i := 2) (by omega) (by omega)
  obtain ⟨x3, e3, b3⟩ := ix_ok hns (i := 3) (by omega) (by omega)
  suffices h : ∃ n r, g_l_record [.list (ns.map .int), .int most, .none, .none, .none, .none, .none, .none, .none, .none] = .ok (.rt (.tuple [.int n, .list (r.map enc3)])) ∧ 1 ≤ n ∧ n ≤ 10 ∧ RecOk n r ∧ (r.length : Int) ≤ most by
    obtain ⟨n, r, h, q⟩ := h
    exact ⟨n, r, fnN_rt h, q⟩
  unfold g_l_record
  -- n
  rw [seq_nx (ρ' := [.list (ns.map .int), .int most, .int (1 + x0 % 6), .none, .none, .none, .none, .none, .none, .none]) (by simp (disch := omega) only [bnd_ok, gVar_def, gC_def, gOp_def, gUn_def, gNil_def, gCons_def, gIf_def, gTest_def, gNot_def, gAnd_def, gOr_def, gAndV_def, gOrV_def, gNotV_def, gCB_def, asB_b, hAdd_i, hSub_i, hLt_i, hLe_i, hGt_i, hGe_i, hMul_r, hMul_l, hMod_i, hDiv_s, hBand_i, hShr_i, hPow_10_18, hPow_10_27, hPow_10_28, hPow_10_29, hPow_10_30, hEq_i, hNe_i, hLen_l, hLen_t, hMin2_i, hMax2_i, hMin3_i, hInt1_b, hInt1_i, hBits_i, hListOf_l, hListOf_t, hTupOf_l, hTupOf_t, gSeqS_def, gSet_def, gRet_def, gIfS_def, gNext_def, gTup_def, gLst_def, List.getElem?_cons_zero, List.getElem?_cons_succ, List.set_cons_zero, List.set_cons_succ, List.length_cons, List.length_nil, Nat.zero_add, Nat.reduceAdd, Nat.reduceLeDiff, Nat.reduceSub, Nat.reduceMul, if_true, if_false, Bool.false_eq_true, List.replicate_succ, List.replicate_zero, List.cons_append, List.nil_append, tgN, tgT, tgCons, tgNil, Int.reducePow, Int.reduceAdd, Int.reduceSub, Int.reduceMul, decide_true, decide_false, Bool.not_true, Bool.not_false, gChain_def, hIsa_int, hIsa_intb, hIsa_list, hIsa_tuple, gDrop_def, e0])]
  obtain ⟨n, hn, n1, n10⟩ : ∃ n, gIfS (gTest (gOp hEq (gOp hMod (gOp hDiv (gOp hIx (gVar 0) (gC (.int (0)))) (gC (.int (6)))) (gC (.int (8)))) (gC (.int (1))))) (gSet 2 (gOp hAdd (gC (.int (7))) (gOp hMod (gOp hDiv (gOp hIx (gVar 0) (gC (.int (0)))) (gC (.int (48)))) (gC (.int (4)))))) gNext
      [.list (ns.map .int), .int most, .int (1 + x0 % 6), .none, .none, .none, .none, .none, .none, .none] = .ok (.nx [.list (ns.map .int), .int most, .int n, .none, .none, .none, .none, .none, .none, .none]) ∧ 1 ≤ n ∧ n ≤ 10 := by
    by_cases c : x0 / 6 % 8 = 1
    · exact ⟨7 + x0 / 48 % 4, by simp (disch := omega) only [bnd_ok, gVar_def, gC_def, gOp_def, gUn_def, gNil_def, gCons_def, gIf_def, gTest_def, gNot_def, gAnd_def, gOr_def, gAndV_def, gOrV_def, gNotV_def, gCB_def, asB_b, hAdd_i, hSub_i, hLt_i, hLe_i, hGt_i, hGe_i, hMul_r, hMul_l, hMod_i, hDiv_s, hBand_i, hShr_i, hPow_10_18, hPow_10_27, hPow_10_28, hPow_10_29, hPow_10_30, hEq_i, hNe_i, hLen_l, hLen_t, hMin2_i, hMax2_i, hMin3_i, hInt1_b, hInt1_i, hBits_i, hListOf_l, hListOf_t, hTupOf_l, hTupOf_t, gSeqS_def, gSet_def, gRet_def, gIfS_def, gNext_def, gTup_def, gLst_def, List.getElem?_cons_zero, List.getElem?_cons_succ, List.set_cons_zero, List.set_cons_succ, List.length_cons, List.length_nil, Nat.zero_add, Nat.reduceAdd, Nat.reduceLeDiff, Nat.reduceSub, Nat.reduceMul, if_true, if_false, Bool.false_eq_true, List.replicate_succ, List.replicate_zero, List.cons_append, List.nil_append, tgN, tgT, tgCons, tgNil, Int.reducePow, Int.reduceAdd, Int.reduceSub, Int.reduceMul, decide_true, decide_false, Bool.not_true, Bool.not_false, gChain_def, hIsa_int, hIsa_intb, hIsa_list, hIsa_tuple, gDrop_def, e0, c, beq_self_eq_true], by omega, by omega⟩
    · have c' : (x0 / 6 % 8 == 1) = false := beq_eq_false_iff_ne.mpr c
      exact ⟨1 + x0 % 6, by simp (disch := omega) only [bnd_ok, gVar_def, gC_def, gOp_def, gUn_def, gNil_def, gCons_def, gIf_def, gTest_def, gNot_def, gAnd_def, gOr_def, gAndV_def, gOrV_def, gNotV_def, gCB_def, asB_b, hAdd_i, hSub_i, hLt_i, hLe_i, hGt_i, hGe_i, hMul_r, hMul_l, hMod_i, hDiv_s, hBand_i, hShr_i, hPow_10_18, hPow_10_27, hPow_10_28, hPow_10_29, hPow_10_30, hEq_i, hNe_i, hLen_l, hLen_t, hMin2_i, hMax2_i, hMin3_i, hInt1_b, hInt1_i, hBits_i, hListOf_l, hListOf_t, hTupOf_l, hTupOf_t, gSeqS_def, gSet_def, gRet_def, gIfS_def, gNext_def, gTup_def, gLst_def, List.getElem?_cons_zero, List.getElem?_cons_succ, List.set_cons_zero, List.set_cons_succ, List.length_cons, List.length_nil, Nat.zero_add, Nat.reduceAdd, Nat.reduceLeDiff, Nat.reduceSub, Nat.reduceMul, if_true, if_false, Bool.false_eq_true, List.replicate_succ, List.replicate_zero, List.cons_append, List.nil_append, tgN, tgT, tgCons, tgNil, Int.reducePow, Int.reduceAdd, Int.reduceSub, Int.reduceMul, decide_true, decide_false, Bool.not_true, Bool.not_false, gChain_def, hIsa_int, hIsa_intb, hIsa_list, hIsa_tuple, gDrop_def, e0, c'], by omega, by omega⟩
  rw [seq_nx hn]
  -- many
  rw [seq_nx (ρ' := [.list (ns.map .int), .int most, .int n, .int (x1 % 13), .none, .none, .none, .none, .none, .none]) (by simp (disch := omega) only [bnd_ok, gVar_def, gC_def, gOp_def, gUn_def, gNil_def, gCons_def, gIf_def, gTest_def, gNot_def, gAnd_def, gOr_def, gAndV_def, gOrV_def, gNotV_def, gCB_def, asB_b, hAdd_i, hSub_i, hLt_i, hLe_i, hGt_i, hGe_i, hMul_r, hMul_l, hMod_i, hDiv_s, hBand_i, hShr_i, hPow_10_18, hPow_10_27, hPow_10_28, hPow_10_29, hPow_10_30, hEq_i, hNe_i, hLen_l, hLen_t, hMin2_i, hMax2_i, hMin3_i, hInt1_b, hInt1_i, hBits_i, hListOf_l, hListOf_t, hTupOf_l, hTupOf_t, gSeqS_def, gSet_def, gRet_def, gIfS_def, gNext_def, gTup_def, gLst_def, List.getElem?_cons_zero, List.getElem?_cons_succ, List.set_cons_zero, List.set_cons_succ, List.length_cons, List.length_nil, Nat.zero_add, Nat.reduceAdd, Nat.reduceLeDiff, Nat.reduceSub, Nat.reduceMul, if_true, if_false, Bool.false_eq_true, List.replicate_succ, List.replicate_zero, List.cons_append, List.nil_append, tgN, tgT, tgCons, tgNil, Int.reducePow, Int.reduceAdd, Int.reduceSub, Int.reduceMul, decide_true, decide_false, Bool.not_true, Bool.not_false, gChain_def, hIsa_int, hIsa_intb, hIsa_list, hIsa_tuple, gDrop_def, e1])]
  obtain ⟨many, hm, m0, m60⟩ : ∃ n', gIfS (gTest (gOp hEq (gOp hMod (gOp hDiv (gOp hIx (gVar 0) (gC (.int (1)))) (gC (.int (13)))) (gC (.int (8)))) (gC (.int (1))))) (gSet 3 (gOp hAdd (gC (.int (13))) (gOp hMod (gOp hDiv (gOp hIx (gVar 0) (gC (.int (1)))) (gC (.int (104)))) (gC (.int (48)))))) gNext
      [.list (ns.map .int), .int most, .int n, .int (x1 % 13), .none, .none, .none, .none, .none, .none] = .ok (.nx [.list (ns.map .int), .int most, .int n, .int n', .none, .none, .none, .none, .none, .none]) ∧ 0 ≤ n' ∧ n' ≤ 60 := by
    by_cases c : x1 / 13 % 8 = 1
    · exact ⟨13 + x1 / 104 % 48, by simp (disch := omega) only [bnd_ok, gVar_def, gC_def, gOp_def, gUn_def, gNil_def, gCons_def, gIf_def, gTest_def, gNot_def, gAnd_def, gOr_def, gAndV_def, gOrV_def, gNotV_def, gCB_def, asB_b, hAdd_i, hSub_i, hLt_i, hLe_i, hGt_i, hGe_i, hMul_r, hMul_l, hMod_i, hDiv_s, hBand_i, hShr_i, hPow_10_18, hPow_10_27, hPow_10_28, hPow_10_29, hPow_10_30, hEq_i, hNe_i, hLen_l, hLen_t, hMin2_i, hMax2_i, hMin3_i, hInt1_b, hInt1_i, hBits_i, hListOf_l, hListOf_t, hTupOf_l, hTupOf_t, gSeqS_def, gSet_def, gRet_def, gIfS_def, gNext_def, gTup_def, gLst_def, List.getElem?_cons_zero, List.getElem?_cons_succ, List.set_cons_zero, List.set_cons_succ, List.length_cons, List.length_nil, Nat.zero_add, Nat.reduceAdd, Nat.reduceLeDiff, Nat.reduceSub, Nat.reduceMul, if_true, if_false, Bool.false_eq_true, List.replicate_succ, List.replicate_zero, List.cons_append, List.nil_append, tgN, tgT, tgCons, tgNil, Int.reducePow, Int.reduceAdd, Int.reduceSub, Int.reduceMul, decide_true, decide_false, Bool.not_true, Bool.not_false, gChain_def, hIsa_int, hIsa_intb, hIsa_list, hIsa_tuple, gDrop_def, e1, c, beq_self_eq_true], by omega, by omega⟩
    · have c' : (x1 / 13 % 8 == 1) = false := beq_eq_false_iff_ne.mpr c
      exact ⟨x1 % 13, by simp (disch := omega) only [bnd_ok, gVar_def, gC_def, gOp_def, gUn_def, gNil_def, gCons_def, gIf_def, gTest_def, gNot_def, gAnd_def, gOr_def, gAndV_def, gOrV_def, gNotV_def, gCB_def, asB_b, hAdd_i, hSub_i, hLt_i, hLe_i, hGt_i, hGe_i, hMul_r, hMul_l, hMod_i, hDiv_s, hBand_i, hShr_i, hPow_10_18, hPow_10_27, hPow_10_28, hPow_10_29, hPow_10_30, hEq_i, hNe_i, hLen_l, hLen_t, hMin2_i, hMax2_i, hMin3_i, hInt1_b, hInt1_i, hBits_i, hListOf_l, hListOf_t, hTupOf_l, hTupOf_t, gSeqS_def, gSet_def, gRet_def, gIfS_def, gNext_def, gTup_def, gLst_def, List.getElem?_cons_zero, List.getElem?_cons_succ, List.set_cons_zero, List.set_cons_succ, List.length_cons, List.length_nil, Nat.zero_add, Nat.reduceAdd, Nat.reduceLeDiff, Nat.reduceSub, Nat.reduceMul, if_true, if_false, Bool.false_eq_true, List.replicate_succ, List.replicate_zero, List.cons_append, List.nil_append, tgN, tgT, tgCons, tgNil, Int.reducePow, Int.reduceAdd, Int.reduceSub, Int.reduceMul, decide_true, decide_false, Bool.not_true, Bool.not_false, gChain_def, hIsa_int, hIsa_intb, hIsa_list, hIsa_tuple, gDrop_def, e1, c'], by omega, by omega⟩
  rw [seq_nx hm]
  -- wide, moment
  obtain ⟨wd, hw, w0, w1⟩ : ∃ wd, gSet 4 (gOp hIx (gLst (gCons (gC (.int (1))) (gCons (gC (.int (4))) (gCons (gOp hPow (gC (.int (10))) (gC (.int (28)))) (gNil))))) (gOp hMod (gOp hIx (gVar 0) (gC (.int (2)))) (gC (.int (3)))))
      [.list (ns.map .int), .int most, .int n, .int many, .none, .none, .none, .none, .none, .none] = .ok (.nx [.list (ns.map .int), .int most, .int n, .int many, .int wd, .none, .none, .none, .none, .none]) ∧ 0 < wd ∧ wd ≤ 10000000000000000000000000000 := by
    refine ⟨if x2 % 3 = 0 then 1 else if x2 % 3 = 1 then 4 else 10000000000000000000000000000, by simp (disch := omega) only [bnd_ok, gVar_def, gC_def, gOp_def, gUn_def, gNil_def, gCons_def, gIf_def, gTest_def, gNot_def, gAnd_def, gOr_def, gAndV_def, gOrV_def, gNotV_def, gCB_def, asB_b, hAdd_i, hSub_i, hLt_i, hLe_i, hGt_i, hGe_i, hMul_r, hMul_l, hMod_i, hDiv_s, hBand_i, hShr_i, hPow_10_18, hPow_10_27, hPow_10_28, hPow_10_29, hPow_10_30, hEq_i, hNe_i, hLen_l, hLen_t, hMin2_i, hMax2_i, hMin3_i, hInt1_b, hInt1_i, hBits_i, hListOf_l, hListOf_t, hTupOf_l, hTupOf_t, gSeqS_def, gSet_def, gRet_def, gIfS_def, gNext_def, gTup_def, gLst_def, List.getElem?_cons_zero, List.getElem?_cons_succ, List.set_cons_zero, List.set_cons_succ, List.length_cons, List.length_nil, Nat.zero_add, Nat.reduceAdd, Nat.reduceLeDiff, Nat.reduceSub, Nat.reduceMul, if_true, if_false, Bool.false_eq_true, List.replicate_succ, List.replicate_zero, List.cons_append, List.nil_append, tgN, tgT, tgCons, tgNil, Int.reducePow, Int.reduceAdd, Int.reduceSub, Int.reduceMul, decide_true, decide_false, Bool.not_true, Bool.not_false, gChain_def, hIsa_int, hIsa_intb, hIsa_list, hIsa_tuple, gDrop_def, e2, ix3], ?_, ?_⟩
    · split <;> (try split) <;> omega
    · split <;> (try split) <;> omega
  rw [seq_nx hw]
  obtain ⟨mo, hmo, mo0, mo1⟩ : ∃ mo, gSet 5 (gOp hIx (gLst (gCons (gC (.int (0))) (gCons (gOp hMod (gOp hDiv (gOp hIx (gVar 0) (gC (.int (2)))) (gC (.int (12)))) (gC (.int (100)))) (gCons (gOp hMod (gOp hIx (gVar 0) (gC (.int (3)))) (gOp hPow (gC (.int (10))) (gC (.int (29))))) (gNil))))) (gOp hMod (gOp hDiv (gOp hIx (gVar 0) (gC (.int (2)))) (gC (.int (3)))) (gC (.int (3)))))
      [.list (ns.map .int), .int most, .int n, .int many, .int wd, .none, .none, .none, .none, .none] = .ok (.nx [.list (ns.map .int), .int most, .int n, .int many, .int wd, .int mo, .none, .none, .none, .none]) ∧ 0 ≤ mo ∧ mo ≤ 100000000000000000000000000000 := by
    refine ⟨if x2 / 3 % 3 = 0 then 0 else if x2 / 3 % 3 = 1 then x2 / 12 % 100 else x3 % 100000000000000000000000000000, by simp (disch := omega) only [bnd_ok, gVar_def, gC_def, gOp_def, gUn_def, gNil_def, gCons_def, gIf_def, gTest_def, gNot_def, gAnd_def, gOr_def, gAndV_def, gOrV_def, gNotV_def, gCB_def, asB_b, hAdd_i, hSub_i, hLt_i, hLe_i, hGt_i, hGe_i, hMul_r, hMul_l, hMod_i, hDiv_s, hBand_i, hShr_i, hPow_10_18, hPow_10_27, hPow_10_28, hPow_10_29, hPow_10_30, hEq_i, hNe_i, hLen_l, hLen_t, hMin2_i, hMax2_i, hMin3_i, hInt1_b, hInt1_i, hBits_i, hListOf_l, hListOf_t, hTupOf_l, hTupOf_t, gSeqS_def, gSet_def, gRet_def, gIfS_def, gNext_def, gTup_def, gLst_def, List.getElem?_cons_zero, List.getElem?_cons_succ, List.set_cons_zero, List.set_cons_succ, List.length_cons, List.length_nil, Nat.zero_add, Nat.reduceAdd, Nat.reduceLeDiff, Nat.reduceSub, Nat.reduceMul, if_true, if_false, Bool.false_eq_true, List.replicate_succ, List.replicate_zero, List.cons_append, List.nil_append, tgN, tgT, tgCons, tgNil, Int.reducePow, Int.reduceAdd, Int.reduceSub, Int.reduceMul, decide_true, decide_false, Bool.not_true, Bool.not_false, gChain_def, hIsa_int, hIsa_intb, hIsa_list, hIsa_tuple, gDrop_def, e2, e3, ix3], ?_, ?_⟩
    · split <;> (try split) <;> omega
    · split <;> (try split) <;> omega
  rw [seq_nx hmo]
  rw [seq_nx (ρ' := [.list (ns.map .int), .int most, .int n, .int many, .int wd, .int mo, .list [], .none, .none, .none]) (by simp (disch := omega) only [bnd_ok, gVar_def, gC_def, gOp_def, gUn_def, gNil_def, gCons_def, gIf_def, gTest_def, gNot_def, gAnd_def, gOr_def, gAndV_def, gOrV_def, gNotV_def, gCB_def, asB_b, hAdd_i, hSub_i, hLt_i, hLe_i, hGt_i, hGe_i, hMul_r, hMul_l, hMod_i, hDiv_s, hBand_i, hShr_i, hPow_10_18, hPow_10_27, hPow_10_28, hPow_10_29, hPow_10_30, hEq_i, hNe_i, hLen_l, hLen_t, hMin2_i, hMax2_i, hMin3_i, hInt1_b, hInt1_i, hBits_i, hListOf_l, hListOf_t, hTupOf_l, hTupOf_t, gSeqS_def, gSet_def, gRet_def, gIfS_def, gNext_def, gTup_def, gLst_def, List.getElem?_cons_zero, List.getElem?_cons_succ, List.set_cons_zero, List.set_cons_succ, List.length_cons, List.length_nil, Nat.zero_add, Nat.reduceAdd, Nat.reduceLeDiff, Nat.reduceSub, Nat.reduceMul, if_true, if_false, Bool.false_eq_true, List.replicate_succ, List.replicate_zero, List.cons_append, List.nil_append, tgN, tgT, tgCons, tgNil, Int.reducePow, Int.reduceAdd, Int.reduceSub, Int.reduceMul, decide_true, decide_false, Bool.not_true, Bool.not_false, gChain_def, hIsa_int, hIsa_intb, hIsa_list, hIsa_tuple, gDrop_def, Nat.zero_le])]
  -- the loop
  obtain ⟨cnt, hc, c0, c1, c2⟩ : ∃ cnt : Nat, gRng1 (gCons (gCB hMin3 (gCons (gVar 3) (gCons (gVar 1) (gCons (gOp hDiv (gOp hSub (gCB hLen (gCons (gVar 0) (gNil))) (gC (.int (4)))) (gC (.int (3)))) (gNil))))) (gNil))
      [.list (ns.map .int), .int most, .int n, .int many, .int wd, .int mo, .list [], .none, .none, .none] = .ok ((List.range cnt).map fun (k : Nat) => PyData.int (k : Int)) ∧ (cnt : Int) ≤ most ∧ cnt ≤ 60 ∧ 3 * cnt + 4 ≤ ns.length := by
    generalize hq : (if most < many then (if ((ns.length : Int) - 4) / 3 < most then ((ns.length : Int) - 4) / 3 else most) else (if ((ns.length : Int) - 4) / 3 < many then ((ns.length : Int) - 4) / 3 else many)) = q
    have q0 : 0 ≤ q ∧ q ≤ most ∧ q ≤ 60 ∧ 3 * q + 4 ≤ ns.length := by
      split at hq <;> split at hq <;> omega
    refine ⟨q.toNat, ?_, by omega, by omega, by omega⟩
    rw [← rangeD_nat, show ((q.toNat : Nat) : Int) = q by omega]
    refine rng1_ok ?_ (by omega) (by omega)
    simp (disch := omega) only [bnd_ok, gVar_def, gC_def, gOp_def, gUn_def, gNil_def, gCons_def, gIf_def, gTest_def, gNot_def, gAnd_def, gOr_def, gAndV_def, gOrV_def, gNotV_def, gCB_def, asB_b, hAdd_i, hSub_i, hLt_i, hLe_i, hGt_i, hGe_i, hMul_r, hMul_l, hMod_i, hDiv_s, hBand_i, hShr_i, hPow_10_18, hPow_10_27, hPow_10_28, hPow_10_29, hPow_10_30, hEq_i, hNe_i, hLen_l, hLen_t, hMin2_i, hMax2_i, hMin3_i, hInt1_b, hInt1_i, hBits_i, hListOf_l, hListOf_t, hTupOf_l, hTupOf_t, gSeqS_def, gSet_def, gRet_def, gIfS_def, gNext_def, gTup_def, gLst_def, List.getElem?_cons_zero, List.getElem?_cons_succ, List.set_cons_zero, List.set_cons_succ, List.length_cons, List.length_nil, Nat.zero_add, Nat.reduceAdd, Nat.reduceLeDiff, Nat.reduceSub, Nat.reduceMul, if_true, if_false, Bool.false_eq_true, List.replicate_succ, List.replicate_zero, List.cons_append, List.nil_append, tgN, tgT, tgCons, tgNil, Int.reducePow, Int.reduceAdd, Int.reduceSub, Int.reduceMul, decide_true, decide_false, Bool.not_true, Bool.not_false, gChain_def, hIsa_int, hIsa_intb, hIsa_list, hIsa_tuple, gDrop_def, List.length_map, hq]
  obtain ⟨ρ', hf, r, m', d7, d8, d9, rfl, hl', hm', hm2, ht, ho, hlt⟩ := forE_ix (fun (k : Nat) => PyData.int (k : Int)) (h := tgN 7) (b := rB) (List.range cnt)
    (fun i ρ => ∃ (r : List T3) (m : Int) (d7 d8 d9 : Dt), ρ = [.list (ns.map .int), .int most, .int n, .int many, .int wd, .int m, .list (r.map enc3), d7, d8, d9] ∧ r.length = i ∧ 0 ≤ m ∧ m ≤ 100000000000000000000000000000 + i * 10000000000000000000000000000 ∧ (∀ t ∈ r, TieOk n t) ∧ (r.Pairwise fun s t => s.1 < t.1) ∧ ∀ t ∈ r, t.1 < m)
    (ρ := [.list (ns.map .int), .int most, .int n, .int many, .int wd, .int mo, .list [], .none, .none, .none]) ⟨[], mo, _, _, _, rfl, rfl, mo0, by omega, by simp, .nil, by simp⟩ (by
      rintro i ρ hi ⟨r, m, d7, d8, d9, rfl, hl', hm', hm2, ht, ho, hlt⟩
      rw [List.getElem_range]
      rw [List.length_range] at hi
      obtain ⟨t, m2, e8, e9, hB, t1, t2, t3, t4, t5, t6⟩ := rB_ok hns hl (k := i) (by omega) n1 w0 hm' (r := r) (by omega) (.int most) (.int many) d8 d9
      have tok : TieOk n t := ⟨by omega, by unfold B30; omega, t2, t3, t4⟩
      obtain ⟨s1, s2⟩ := rec_snoc ht ho tok (fun s hs => by rw [t1]; exact hlt s hs)
      refine ⟨_, _, rfl, .inl hB, r ++ [t], m2, _, _, _, rfl, by rw [List.length_append, hl']; rfl, by omega, by omega, s1, s2, fun s hs => ?_⟩
      rcases List.mem_append.mp hs with h | h
      · have := hlt s h; omega
      · rw [List.mem_singleton.mp h]; omega)
  rw [List.length_range] at hl'
  refine ⟨n, r, (seq_nx (b := gRet (gTup (gCons (gVar 2) (gCons (gVar 6) gNil)))) (for_ok hc hf)).trans ?_, n1, n10, ⟨by omega, ht, ho⟩, by omega⟩
  simp only [bnd_ok, gVar_def, gC_def, gOp_def, gUn_def, gNil_def, gCons_def, gIf_def, gTest_def, gNot_def, gAnd_def, gOr_def, gAndV_def, gOrV_def, gNotV_def, gCB_def, asB_b, hAdd_i, hSub_i, hLt_i, hLe_i, hGt_i, hGe_i, hMul_r, hMul_l, hMod_i, hDiv_s, hBand_i, hShr_i, hPow_10_18, hPow_10_27, hPow_10_28, hPow_10_29, hPow_10_30, hEq_i, hNe_i, hLen_l, hLen_t, hMin2_i, hMax2_i, hMin3_i, hInt1_b, hInt1_i, hBits_i, hListOf_l, hListOf_t, hTupOf_l, hTupOf_t, gSeqS_def, gSet_def, gRet_def, gIfS_def, gNext_def, gTup_def, gLst_def, List.getElem?_cons_zero, List.getElem?_cons_succ, List.set_cons_zero, List.set_cons_succ, List.length_cons, List.length_nil, Nat.zero_add, Nat.reduceAdd, Nat.reduceLeDiff, Nat.reduceSub, Nat.reduceMul, if_true, if_false, Bool.false_eq_true, List.replicate_succ, List.replicate_zero, List.cons_append, List.nil_append, tgN, tgT, tgCons, tgNil, Int.reducePow, Int.reduceAdd, Int.reduceSub, Int.reduceMul, decide_true, decide_false, Bool.not_true, Bool.not_false, gChain_def, hIsa_int, hIsa_intb, hIsa_list, hIsa_tuple, gDrop_def]
end FamA
end T_FamAP

section T_FamL
set_option linter.all false
namespace FamL
open PySem Sim
def g_is_whole : Gs := gRet (gAndV (gUn (hIsa .int) (gVar 0)) (gNotV (gUn (hIsa .bool) (gVar 0))))
def f_is_whole : List Dt → O Dt := fnN 1 g_is_whole
def g_joined : Gs := gSeqS (gSet 3 (gCB hMin2 (gCons (gOp hIx (gVar 0) (gVar 1)) (gCons (gOp hIx (gVar 0) (gVar 2)) (gNil))))) (gSeqS (gSet 4 (gCB hMax2 (gCons (gOp hIx (gVar 0) (gVar 1)) (gCons (gOp hIx (gVar 0) (gVar 2)) (gNil))))) (gRet (gPurN (gLc (gSeq (gVar 0)) (tgN 5) (gYes) (gIf (gTest (gOp hEq (gVar 5) (gVar 4))) (gVar 3) (gVar 5))))))
def f_joined : List Dt → O Dt := fnL 6 g_joined
def g_is_depth : Gs := gRet (gAndV (gCallN 1 f_is_whole (gCons (gVar 0) (gNil))) (gChain hLe hLe (gC (.int (1))) (gVar 0) (gC (.int (6)))))
def f_is_depth : List Dt → O Dt := fnN 1 g_is_depth
def g_look_at_layers : Gs := gIfS (gNot (gTest (gCallN 1 f_is_depth (gCons (gVar 0) (gNil))))) (gBad) (gNext)
def f_look_at_layers : List Dt → O Dt := fnN 1 g_look_at_layers
def g_layer_for_L1 : Gs := gIfS (gTest (gOp hNe (gOp hIx (gVar 4) (gVar 1)) (gOp hIx (gVar 4) (gVar 2)))) (gRet (gOp hAdd (gVar 3) (gC (.int (1))))) (gNext)
def g_layer_for : Gs := gSeqS (gFor (gEnum (gCons (gVar 0) (gNil))) (tgT (tgCons (tgN 3) (tgCons (tgN 4) (tgNil)))) g_layer_for_L1) (gRet (gC (.int (0))))
def f_layer_for : List Dt → O Dt := fnN 5 g_layer_for
def g_layered_L1 : Gs := gSeqS (gSet 4 (gCallN 3 f_layer_for (gCons (gVar 3) (gCons (gVar 7) (gCons (gVar 8) (gNil)))))) (gSeqS (gIfS (gTest (gOp hGt (gVar 4) (gC (.int (0))))) (gSetI 3 (gCallN 3 f_joined (gCons (gOp hIx (gVar 3) (gOp hSub (gVar 4) (gC (.int (1))))) (gCons (gVar 7) (gCons (gVar 8) (gNil))))) (gOp hSub (gVar 4) (gC (.int (1))))) (gNext)) (gApp 5 (gVar 4)))
def g_layered : Gs := gSeqS (gDrop (gCallN 1 f_look_at_layers (gCons (gVar 2) (gNil)))) (gSeqS (gSet 3 (gLc (gRng1 (gCons (gVar 2) (gNil))) (tgN 4) (gYes) (gLsI (gRng1 (gCons (gVar 0) gNil))))) (gSeqS (gSet 5 (gLst (gNil))) (gSeqS (gFor (gRev (gCons (gVar 1) (gNil))) (tgT (tgCons (tgN 6) (tgCons (tgN 7) (tgCons (tgN 8) (tgNil))))) g_layered_L1) (gRet (gLsI (gRev (gCons (gVar 5) gNil)))))))
def f_layered : List Dt → O Dt := fnL 9 g_layered
def g_l_depth : Gs := gRet (gOp hIx (gLst (gCons (gOp hAdd (gC (.int (1))) (gOp hMod (gVar 0) (gC (.int (4))))) (gCons (gOp hAdd (gC (.int (1))) (gOp hMod (gOp hDiv (gVar 0) (gC (.int (32)))) (gC (.int (6))))) (gNil)))) (gCB hInt1 (gCons (gOp hEq (gOp hMod (gVar 0) (gC (.int (8)))) (gC (.int (1)))) (gNil))))
def f_l_depth : List Dt → O Dt := fnN 1 g_l_depth
end FamL
end T_FamL

section T_ConnP
set_option linter.all false
set_option maxRecDepth 100000
/-! ConnP: places joined by ties; marks; layers. Plain. -/
namespace Lay
open PySem Sim FamA

def E2 (ts : List T3) (b c : Int) : Prop := ∃ t ∈ ts, (t.2.1 = b ∧ t.2.2 = c) ∨ (t.2.1 = c ∧ t.2.2 = b)
inductive Conn (ts : List T3) : Int → Int → Prop
  | refl (a : Int) : Conn ts a a
  | step {a b c : Int} : Conn ts a b → E2 ts b c → Conn ts a c
section
variable {ts ts' : List T3} {a b c p q n : Int} {t : T3} {ms : List Int}
theorem E2.symm (h : E2 ts b c) : E2 ts c b := by
  obtain ⟨t, h1, h2⟩ := h
  exact ⟨t, h1, h2.symm⟩
theorem Conn.one (h : E2 ts a b) : Conn ts a b := .step (.refl a) h
theorem Conn.trans (h : Conn ts a b) (k : Conn ts b c) : Conn ts a c := by
  induction k with
  | refl => exact h
  | step _ e ih => exact .step ih e
theorem Conn.symm (h : Conn ts a b) : Conn ts b a := by
  induction h with
  | refl => exact .refl _
  | step _ e ih => exact (Conn.one e.symm).trans ih
theorem Conn.mono (h : ∀ b c, E2 ts b c → Conn ts' b c) (k : Conn ts a b) : Conn ts' a b := by
  induction k with
  | refl => exact .refl _
  | step _ e ih => exact ih.trans (h _ _ e)
theorem Conn.sub (h : ∀ t ∈ ts, t ∈ ts') (k : Conn ts a b) : Conn ts' a b := k.mono fun b c ⟨t, h1, h2⟩ => .one ⟨t, h t h1, h2⟩
theorem conn_mem (h : ∀ t, t ∈ ts ↔ t ∈ ts') : Conn ts a b ↔ Conn ts' a b := ⟨fun k => k.sub fun t => (h t).mp, fun k => k.sub fun t => (h t).mpr⟩
theorem conn_nil : Conn [] a b ↔ a = b := by
  constructor
  · intro h
    cases h with
    | refl => rfl
    | step _ e => obtain ⟨t, h1, _⟩ := e; cases h1
  · rintro rfl; exact .refl _
theorem conn_cons : Conn (t :: ts) p q ↔ Conn ts p q ∨ (Conn ts p t.2.1 ∧ Conn ts t.2.2 q) ∨ (Conn ts p t.2.2 ∧ Conn ts t.2.1 q) := by
  constructor
  · intro h
    induction h with
    | refl => exact .inl (.refl _)
    | step _ e ih =>
      obtain ⟨s, hs, e⟩ := e
      rcases List.mem_cons.mp hs with rfl | hs
      · rcases e with ⟨rfl, rfl⟩ | ⟨rfl, rfl⟩
        · rcases ih with h | ⟨h, _⟩ | ⟨h, _⟩
          · exact .inr (.inl ⟨h, .refl _⟩)
          · exact .inr (.inl ⟨h, .refl _⟩)
          · exact .inl h
        · rcases ih with h | ⟨h, _⟩ | ⟨h, _⟩
          · exact .inr (.inr ⟨h, .refl _⟩)
          · exact .inl h
          · exact .inr (.inr ⟨h, .refl _⟩)
      · have e := Conn.one (ts := ts) ⟨s, hs, e⟩
        rcases ih with h | ⟨h, k⟩ | ⟨h, k⟩
        · exact .inl (h.trans e)
        · exact .inr (.inl ⟨h, k.trans e⟩)
        · exact .inr (.inr ⟨h, k.trans e⟩)
  · have up : ∀ {x y}, Conn ts x y → Conn (t :: ts) x y := fun h => h.sub fun _ => List.mem_cons_of_mem _
    have e : Conn (t :: ts) t.2.1 t.2.2 := .one ⟨t, List.mem_cons_self, .inl ⟨rfl, rfl⟩⟩
    rintro (h | ⟨h, k⟩ | ⟨h, k⟩)
    · exact up h
    · exact (up h).trans (e.trans (up k))
    · exact (up h).trans (e.symm.trans (up k))

/-! ### marks -/
def gx (ms : List Int) (a : Int) : Int := ms.getD a.toNat 0
structure MK (n : Int) (ms : List Int) (ts : List T3) : Prop where
  len : ms.length = n.toNat
  ker : ∀ a b, 0 ≤ a → a < n → 0 ≤ b → b < n → (gx ms a = gx ms b ↔ Conn ts a b)
theorem gx_map (f : Int → Int) (h0 : 0 ≤ a) (h1 : a.toNat < ms.length) : gx (ms.map f) a = f (gx ms a) := by
  unfold gx
  rw [List.getD_eq_getElem?_getD, List.getD_eq_getElem?_getD, List.getElem?_map, List.getElem?_eq_getElem h1]
  rfl
theorem gx_pl (h0 : 0 ≤ a) (h1 : a < n) : gx (pl n) a = a := by
  unfold gx pl
  rw [List.getD_eq_getElem?_getD, List.getElem?_map, List.getElem?_range (by omega)]
  show ((a.toNat : Nat) : Int) = a
  omega
theorem MK.zero : MK n (pl n) [] := ⟨pl_len n, fun a b a0 an b0 bn => by rw [gx_pl a0 an, gx_pl b0 bn, conn_nil]⟩
theorem MK.step (h : MK n ms ts) (a0 : 0 ≤ t.2.1) (a1 : t.2.1 < n) (b0 : 0 ≤ t.2.2) (b1 : t.2.2 < n) {x y : Int}
    (hxy : (x = gx ms t.2.1 ∧ y = gx ms t.2.2) ∨ (x = gx ms t.2.2 ∧ y = gx ms t.2.1)) : MK n (ms.map fun m => if m = x then y else m) (t :: ts) := by
  refine ⟨by rw [List.length_map]; exact h.len, fun p q p0 pn q0 qn => ?_⟩
  rw [gx_map _ p0 (by rw [h.len]; omega), gx_map _ q0 (by rw [h.len]; omega), conn_cons, ← h.ker p q p0 pn q0 qn, ← h.ker p _ p0 pn a0 a1, ← h.ker _ q b0 b1 q0 qn, ← h.ker p _ p0 pn b0 b1, ← h.ker _ q a0 a1 q0 qn]
  generalize gx ms p = u at *
  generalize gx ms q = v at *
  generalize gx ms t.2.1 = A at *
  generalize gx ms t.2.2 = B at *
  rcases hxy with ⟨rfl, rfl⟩ | ⟨rfl, rfl⟩
  · split <;> split <;> constructor <;> intro h <;> omega
  · split <;> split <;> constructor <;> intro h <;> omega
theorem MK.mem (h : MK n ms ts) (e : ∀ t, t ∈ ts ↔ t ∈ ts') : MK n ms ts' := ⟨h.len, fun a b a0 an b0 bn => (h.ker a b a0 an b0 bn).trans (conn_mem e)⟩

/-! ### layers -/
def layer (j : Int) (s : List T3) (ns : List Int) : List T3 := ((s.zip ns).filter fun p => p.2 == j).map (·.1)
open Classical in
noncomputable def fj (p : Nat → Prop) (lo : Nat) : Nat → Int
  | 0 => 0
  | m + 1 => if p lo then (lo : Int) + 1 else fj p (lo + 1) m
noncomputable def num (k : Nat) (s : List T3) (ns : List Int) (a b : Int) : Int := fj (fun j => ¬ Conn (layer ((j : Int) + 1) s ns) a b) 0 k
noncomputable def lay (k : Nat) : List T3 → List Int
  | [] => []
  | t :: s => num k s (lay k s) t.2.1 t.2.2 :: lay k s
theorem lay_len (k : Nat) : ∀ r, (lay k r).length = r.length
  | [] => rfl
  | t :: s => by unfold lay; rw [List.length_cons, List.length_cons, lay_len k s]
theorem lay_cons (k : Nat) (t : T3) (s : List T3) : lay k (t :: s) = num k s (lay k s) t.2.1 t.2.2 :: lay k s := rfl
theorem layer_cons (j x : Int) (t : T3) (s : List T3) (ns : List Int) : layer j (t :: s) (x :: ns) = if x = j then t :: layer j s ns else layer j s ns := by
  unfold layer
  rw [List.zip_cons_cons, List.filter_cons]
  by_cases h : x = j
  · simp [h]
  · simp [h]
theorem fj_zero (p : Nat → Prop) (lo : Nat) : fj p lo 0 = 0 := rfl
theorem fj_t {p : Nat → Prop} {lo : Nat} (m : Nat) (h : p lo) : fj p lo (m + 1) = (lo : Int) + 1 := by unfold fj; rw [if_pos h]
theorem fj_f {p : Nat → Prop} {lo : Nat} (m : Nat) (h : ¬ p lo) : fj p lo (m + 1) = fj p (lo + 1) m := by
  conv => lhs; unfold fj
  exact if_neg h
theorem fj_range (p : Nat → Prop) : ∀ (m lo : Nat), fj p lo m = 0 ∨ ((lo : Int) < fj p lo m ∧ fj p lo m ≤ (lo : Int) + m)
  | 0, _ => .inl rfl
  | m + 1, lo => by
    by_cases h : p lo
    · rw [fj_t m h]; exact .inr ⟨by omega, by omega⟩
    · rw [fj_f m h]
      rcases fj_range p m (lo + 1) with e | ⟨e1, e2⟩
      · exact .inl e
      · exact .inr ⟨by omega, by omega⟩
theorem fj_congr {p q : Nat → Prop} : ∀ (m lo : Nat), (∀ i, lo ≤ i → i < lo + m → (p i ↔ q i)) → fj p lo m = fj q lo m
  | 0, _, _ => rfl
  | m + 1, lo, h => by
    have e := fj_congr (p := p) (q := q) m (lo + 1) fun i h1 h2 => h i (by omega) (by omega)
    by_cases c : p lo
    · rw [fj_t m c, fj_t m ((h lo (by omega) (by omega)).mp c)]
    · rw [fj_f m c, fj_f m (fun z => c ((h lo (by omega) (by omega)).mpr z)), e]
theorem num_range (k : Nat) (s : List T3) (ns : List Int) (a b : Int) : 0 ≤ num k s ns a b ∧ num k s ns a b ≤ k := by
  unfold num
  rcases fj_range (fun j => ¬ Conn (layer ((j : Int) + 1) s ns) a b) k 0 with e | ⟨e1, e2⟩
  · rw [e]; omega
  · omega
theorem lay_range (k : Nat) : ∀ (r : List T3) (x : Int), x ∈ lay k r → 0 ≤ x ∧ x ≤ k
  | t :: s, x, h => by
    rw [lay_cons] at h
    rcases List.mem_cons.mp h with rfl | h
    · exact num_range k s _ _ _
    · exact lay_range k s x h
/-- the first row whose marks differ -/
def lfr (a b : Int) : List (List Int) → Nat → Int
  | [], _ => 0
  | ms :: rows, lo => if gx ms a = gx ms b then lfr a b rows (lo + 1) else (lo : Int) + 1
theorem lfr_fj (p : Nat → Prop) : ∀ (rows : List (List Int)) (lo : Nat), (∀ i (h : i < rows.length), gx rows[i] a = gx rows[i] b ↔ ¬ p (lo + i)) → lfr a b rows lo = fj p lo rows.length
  | [], _, _ => rfl
  | ms :: rows, lo, h => by
    have h0 := h 0 (by rw [List.length_cons]; omega)
    have e := lfr_fj p rows (lo + 1) fun i hi => by
      have := h (i + 1) (by rw [List.length_cons]; omega)
      rw [List.getElem_cons_succ] at this
      rw [this, show lo + 1 + i = lo + (i + 1) by omega]
    rw [List.getElem_cons_zero, Nat.add_zero] at h0
    unfold lfr
    rw [List.length_cons]
    by_cases c : gx ms a = gx ms b
    · rw [if_pos c, fj_f _ (h0.mp c), e]
    · rw [if_neg c, fj_t _ (Classical.byContradiction fun z => c (h0.mpr z))]
/-- the rows stand for the layers -/
structure RowsOk (n : Int) (k : Nat) (rows : List (List Int)) (s : List T3) : Prop where
  len : rows.length = k
  mkr : ∀ j (h : j < rows.length), MK n rows[j] (layer ((j : Int) + 1) s (lay k s))
theorem RowsOk.zero {k : Nat} : RowsOk n k (List.replicate k (pl n)) [] := ⟨List.length_replicate .., fun j h => by
  rw [List.getElem_replicate]
  exact MK.zero⟩
theorem RowsOk.num {k : Nat} {rows : List (List Int)} {s : List T3} (h : RowsOk n k rows s) (a0 : 0 ≤ a) (an : a < n) (b0 : 0 ≤ b) (bn : b < n) : lfr a b rows 0 = num k s (lay k s) a b := by
  rw [lfr_fj (fun j => ¬ Conn (layer ((j : Int) + 1) s (lay k s)) a b) rows 0 fun i hi => ?_, h.len]
  · rfl
  · rw [Nat.zero_add, Classical.not_not]
    exact (h.mkr i hi).ker a b a0 an b0 bn
theorem RowsOk.stay {k : Nat} {rows : List (List Int)} {s : List T3} (h : RowsOk n k rows s) (e : Lay.num k s (lay k s) t.2.1 t.2.2 = 0) : RowsOk n k rows (t :: s) := ⟨h.len, fun j hj => by
  rw [lay_cons, layer_cons, if_neg (by omega)]
  exact h.mkr j hj⟩
theorem RowsOk.put {k : Nat} {rows : List (List Int)} {s : List T3} (h : RowsOk n k rows s) (a0 : 0 ≤ t.2.1) (a1 : t.2.1 < n) (b0 : 0 ≤ t.2.2) (b1 : t.2.2 < n) {j : Nat} (hj : j < rows.length) (e : Lay.num k s (lay k s) t.2.1 t.2.2 = (j : Int) + 1) {x y : Int}
    (hxy : (x = gx rows[j] t.2.1 ∧ y = gx rows[j] t.2.2) ∨ (x = gx rows[j] t.2.2 ∧ y = gx rows[j] t.2.1)) : RowsOk n k (rows.set j (rows[j].map fun m => if m = x then y else m)) (t :: s) := ⟨by rw [List.length_set]; exact h.len, fun i hi => by
  rw [List.length_set] at hi
  rw [lay_cons, layer_cons, e]
  by_cases c : j = i
  · subst c
    rw [List.getElem_set_self, if_pos rfl]
    exact (h.mkr j hj).step a0 a1 b0 b1 hxy
  · rw [List.getElem_set_ne c, if_neg (by omega)]
    exact h.mkr i hi⟩
end
end Lay
end T_ConnP

section T_FamLP
set_option linter.all false
set_option maxRecDepth 100000
set_option maxHeartbeats 1000000
namespace FamL
open PySem Sim FamA Lay

def encI (ms : List Int) : Dt := .list (ms.map .int)
theorem hIx_gx {ms : List Int} {a : Int} (h0 : 0 ≤ a) (h1 : a.toNat < ms.length) : hIx (.list (ms.map .int)) (.int a) = .ok (.int (gx ms a)) := by
  rw [hIx_ints h0 (by omega)]
  unfold gx
  rw [List.getD_eq_getElem?_getD, List.getElem?_eq_getElem h1]
  rfl
theorem joined_ok {ms : List Int} {a b : Int} (a0 : 0 ≤ a) (a1 : a.toNat < ms.length) (b0 : 0 ≤ b) (b1 : b.toNat < ms.length) (hl : ms.length ≤ 1000) :
    ∃ x y, f_joined [encI ms, .int a, .int b] = .ok (encI (ms.map fun m => if m = x then y else m)) ∧ ((x = gx ms a ∧ y = gx ms b) ∨ (x = gx ms b ∧ y = gx ms a)) := by
  refine ⟨if gx ms b > gx ms a then gx ms b else gx ms a, if gx ms b < gx ms a then gx ms b else gx ms a, ?_, ?_⟩
  · refine fnL_rt ?_
    show g_joined [.list (ms.map .int), .int a, .int b, .none, .none, .none] = _
    unfold g_joined
    have i1 := hIx_gx a0 a1
    have i2 := hIx_gx b0 b1
    apply seq_step
    · simp (disch := first | omega | with_unfolding_all rfl | assumption | decide | (simp only [List.length_cons, List.length_nil]; omega)) only [bnd_ok, gVar_def, gC_def, gOp_def, gUn_def, gNil_def, gCons_def, gIf_def, gTest_def, gNot_def, gAnd_def, gOr_def, gAndV_def, gOrV_def, gNotV_def, gCB_def, asB_b, hAdd_i, hSub_i, hLt_i, hLe_i, hGt_i, hGe_i, hMul_r, hMul_l, hMod_i, hDiv_s, hBand_i, hShr_i, hPow_10_18, hPow_10_27, hPow_10_28, hPow_10_29, hPow_10_30, hEq_i, hNe_i, hLen_l, hLen_t, hMin2_i, hMax2_i, hMin3_i, hInt1_b, hInt1_i, hBits_i, hListOf_l, hListOf_t, hTupOf_l, hTupOf_t, gSeqS_def, gSet_def, gRet_def, gIfS_def, gNext_def, gTup_def, gLst_def, List.getElem?_cons_zero, List.getElem?_cons_succ, List.set_cons_zero, List.set_cons_succ, List.length_cons, List.length_nil, Nat.zero_add, Nat.reduceAdd, Nat.reduceLeDiff, Nat.reduceSub, Nat.reduceMul, if_true, if_false, Bool.false_eq_true, List.replicate_succ, List.replicate_zero, List.cons_append, List.nil_append, tgN, tgT, tgCons, tgNil, Int.reducePow, Int.reduceAdd, Int.reduceSub, Int.reduceMul, decide_true, decide_false, Bool.not_true, Bool.not_false, gChain_def, hIsa_int, hIsa_intb, hIsa_list, hIsa_tuple, gDrop_def, gCallN_def, gAsg_def, gSl_def, gNoPart_def, gPart_def, hSl_from', hSl_to', i1, i2]
      rfl
    apply seq_step
    · simp (disch := first | omega | with_unfolding_all rfl | assumption | decide | (simp only [List.length_cons, List.length_nil]; omega)) only [bnd_ok, gVar_def, gC_def, gOp_def, gUn_def, gNil_def, gCons_def, gIf_def, gTest_def, gNot_def, gAnd_def, gOr_def, gAndV_def, gOrV_def, gNotV_def, gCB_def, asB_b, hAdd_i, hSub_i, hLt_i, hLe_i, hGt_i, hGe_i, hMul_r, hMul_l, hMod_i, hDiv_s, hBand_i, hShr_i, hPow_10_18, hPow_10_27, hPow_10_28, hPow_10_29, hPow_10_30, hEq_i, hNe_i, hLen_l, hLen_t, hMin2_i, hMax2_i, hMin3_i, hInt1_b, hInt1_i, hBits_i, hListOf_l, hListOf_t, hTupOf_l, hTupOf_t, gSeqS_def, gSet_def, gRet_def, gIfS_def, gNext_def, gTup_def, gLst_def, List.getElem?_cons_zero, List.getElem?_cons_succ, List.set_cons_zero, List.set_cons_succ, List.length_cons, List.length_nil, Nat.zero_add, Nat.reduceAdd, Nat.reduceLeDiff, Nat.reduceSub, Nat.reduceMul, if_true, if_false, Bool.false_eq_true, List.replicate_succ, List.replicate_zero, List.cons_append, List.nil_append, tgN, tgT, tgCons, tgNil, Int.reducePow, Int.reduceAdd, Int.reduceSub, Int.reduceMul, decide_true, decide_false, Bool.not_true, Bool.not_false, gChain_def, hIsa_int, hIsa_intb, hIsa_list, hIsa_tuple, gDrop_def, gCallN_def, gAsg_def, gSl_def, gNoPart_def, gPart_def, hSl_from', hSl_to', i1, i2]
      rfl
    have h := gLc_map PyData.int (fun _ => true) (fun m => PyData.int (if m = (if gx ms b > gx ms a then gx ms b else gx ms a) then (if gx ms b < gx ms a then gx ms b else gx ms a) else m)) (gi := gSeq (gVar 0)) (h := tgN 5) (gt := gYes) (ge := gIf (gTest (gOp hEq (gVar 5) (gVar 4))) (gVar 3) (gVar 5))
      (ρ := [.list (ms.map .int), .int a, .int b, .int (if gx ms b < gx ms a then gx ms b else gx ms a), .int (if gx ms b > gx ms a then gx ms b else gx ms a), .none]) (xs := ms) rfl (by omega) (fun m _ => ⟨_, rfl, rfl, fun _ => by
        simp only [bnd_ok, gVar_def, gC_def, gOp_def, gUn_def, gNil_def, gCons_def, gIf_def, gTest_def, gNot_def, gAnd_def, gOr_def, gAndV_def, gOrV_def, gNotV_def, gCB_def, asB_b, hAdd_i, hSub_i, hLt_i, hLe_i, hGt_i, hGe_i, hMul_r, hMul_l, hMod_i, hDiv_s, hBand_i, hShr_i, hPow_10_18, hPow_10_27, hPow_10_28, hPow_10_29, hPow_10_30, hEq_i, hNe_i, hLen_l, hLen_t, hMin2_i, hMax2_i, hMin3_i, hInt1_b, hInt1_i, hBits_i, hListOf_l, hListOf_t, hTupOf_l, hTupOf_t, gSeqS_def, gSet_def, gRet_def, gIfS_def, gNext_def, gTup_def, gLst_def, List.getElem?_cons_zero, List.getElem?_cons_succ, List.set_cons_zero, List.set_cons_succ, List.length_cons, List.length_nil, Nat.zero_add, Nat.reduceAdd, Nat.reduceLeDiff, Nat.reduceSub, Nat.reduceMul, if_true, if_false, Bool.false_eq_true, List.replicate_succ, List.replicate_zero, List.cons_append, List.nil_append, tgN, tgT, tgCons, tgNil, Int.reducePow, Int.reduceAdd, Int.reduceSub, Int.reduceMul, decide_true, decide_false, Bool.not_true, Bool.not_false, gChain_def, hIsa_int, hIsa_intb, hIsa_list, hIsa_tuple, gDrop_def]
        by_cases c : m = (if gx ms b > gx ms a then gx ms b else gx ms a)
        · simp only [c, if_true, beq_self_eq_true]
        · simp only [c, if_false, beq_iff_eq]⟩)
    rw [List.filter_eq_self.mpr (fun _ _ => rfl)] at h
    have e : (ms.map fun m => PyData.int (if m = (if gx ms b > gx ms a then gx ms b else gx ms a) then (if gx ms b < gx ms a then gx ms b else gx ms a) else m)) = (ms.map fun m => if m = (if gx ms b > gx ms a then gx ms b else gx ms a) then (if gx ms b < gx ms a then gx ms b else gx ms a) else m).map PyData.int := by rw [List.map_map]; rfl
    simp only [gRet_def, gPurN_def, h, bnd_ok, pureIn, e, pureA_ints, if_true]
    rfl
  · by_cases c1 : gx ms b > gx ms a <;> by_cases c2 : gx ms b < gx ms a
    · omega
    · rw [if_pos c1, if_neg c2]; exact .inr ⟨rfl, rfl⟩
    · rw [if_neg c1, if_pos c2]; exact .inl ⟨rfl, rfl⟩
    · rw [if_neg c1, if_neg c2]; exact .inl ⟨rfl, by omega⟩
/-- a row with its number -/
def encP (p : List Int × Nat) : Dt := .tuple [.int (p.2 : Nat), encI p.1]
theorem lf_loop {a b : Int} {m : Nat} (M : Dt) (a0 : 0 ≤ a) (a1 : a.toNat < m) (b0 : 0 ≤ b) (b1 : b.toNat < m) : ∀ (rows : List (List Int)) (lo : Nat) (x y : Dt), (∀ ms ∈ rows, ms.length = m) →
    (forE (tgT (tgCons (tgN 3) (tgCons (tgN 4) (tgNil)))) g_layer_for_L1 ((rows.zipIdx lo).map encP) [M, .int a, .int b, x, y] = .ok (.rt (.int (lfr a b rows lo)))) ∨
      ((∃ x' y', forE (tgT (tgCons (tgN 3) (tgCons (tgN 4) (tgNil)))) g_layer_for_L1 ((rows.zipIdx lo).map encP) [M, .int a, .int b, x, y] = .ok (.nx [M, .int a, .int b, x', y'])) ∧ lfr a b rows lo = 0)
  | [], lo, x, y, _ => .inr ⟨⟨x, y, rfl⟩, rfl⟩
  | ms :: rows, lo, x, y, h => by
    have l := h ms List.mem_cons_self
    have i1 := hIx_gx (ms := ms) a0 (by omega)
    have i2 := hIx_gx (ms := ms) b0 (by omega)
    have ih := lf_loop M a0 a1 b0 b1 rows (lo + 1) (.int lo) (encI ms) fun ms hm => h ms (List.mem_cons_of_mem _ hm)
    rw [List.zipIdx_cons, List.map_cons]
    unfold forE
    have e1 : tgT (tgCons (tgN 3) (tgCons (tgN 4) (tgNil))) (encP (ms, lo)) [M, .int a, .int b, x, y] = .ok [M, .int a, .int b, .int lo, .list (ms.map .int)] := rfl
    have e2 : g_layer_for_L1 [M, .int a, .int b, .int lo, .list (ms.map .int)] = if gx ms a = gx ms b then .ok (.nx [M, .int a, .int b, .int lo, .list (ms.map .int)]) else .ok (.rt (.int ((lo : Int) + 1))) := by
      unfold g_layer_for_L1
      simp only [bnd_ok, gVar_def, gC_def, gOp_def, gUn_def, gNil_def, gCons_def, gIf_def, gTest_def, gNot_def, gAnd_def, gOr_def, gAndV_def, gOrV_def, gNotV_def, gCB_def, asB_b, hAdd_i, hSub_i, hLt_i, hLe_i, hGt_i, hGe_i, hMul_r, hMul_l, hMod_i, hDiv_s, hBand_i, hShr_i, hPow_10_18, hPow_10_27, hPow_10_28, hPow_10_29, hPow_10_30, hEq_i, hNe_i, hLen_l, hLen_t, hMin2_i, hMax2_i, hMin3_i, hInt1_b, hInt1_i, hBits_i, hListOf_l, hListOf_t, hTupOf_l, hTupOf_t, gSeqS_def, gSet_def, gRet_def, gIfS_def, gNext_def, gTup_def, gLst_def, List.getElem?_cons_zero, List.getElem?_cons_succ, List.set_cons_zero, List.set_cons_succ, List.length_cons, List.length_nil, Nat.zero_add, Nat.reduceAdd, Nat.reduceLeDiff, Nat.reduceSub, Nat.reduceMul, if_true, if_false, Bool.false_eq_true, List.replicate_succ, List.replicate_zero, List.cons_append, List.nil_append, tgN, tgT, tgCons, tgNil, Int.reducePow, Int.reduceAdd, Int.reduceSub, Int.reduceMul, decide_true, decide_false, Bool.not_true, Bool.not_false, gChain_def, hIsa_int, hIsa_intb, hIsa_list, hIsa_tuple, gDrop_def, i1, i2]
      by_cases c : gx ms a = gx ms b
      · simp [c]
      · simp [c]
    rw [e1]
    simp only [e2]
    unfold lfr
    by_cases c : gx ms a = gx ms b
    · rw [if_pos c, if_pos c]
      exact ih
    · rw [if_neg c, if_neg c]
      exact .inl rfl
theorem layer_for_ok {a b : Int} {m : Nat} {rows : List (List Int)} (a0 : 0 ≤ a) (a1 : a.toNat < m) (b0 : 0 ≤ b) (b1 : b.toNat < m) (h : ∀ ms ∈ rows, ms.length = m) : f_layer_for [.list (rows.map encI), .int a, .int b] = .ok (.int (lfr a b rows 0)) := by
  refine fnN_rt ?_
  show g_layer_for [.list (rows.map encI), .int a, .int b, .none, .none] = _
  unfold g_layer_for
  have e : gEnum (gCons (gVar 0) (gNil)) [.list (rows.map encI), .int a, .int b, .none, .none] = .ok ((rows.zipIdx 0).map encP) := by
    refine (enum_ok (es := rows.map encI) (by rfl)).trans ?_
    rw [enumD_map]
    rfl
  rcases lf_loop (.list (rows.map encI)) a0 a1 b0 b1 rows 0 .none .none h with q | ⟨⟨x, y, q⟩, z⟩
  · exact seq_rt (for_ok e q)
  · rw [z]
    exact seq_step (for_ok e q) rfl
theorem look_ok {k : Int} (k1 : 1 ≤ k) (k6 : k ≤ 6) : f_look_at_layers [.int k] = .ok .none := by
  have e1 : f_is_whole [.int k] = .ok (.bool true) := rfl
  have e2 : f_is_depth [.int k] = .ok (.bool true) := by
    refine fnN_rt ?_
    show g_is_depth [.int k] = _
    unfold g_is_depth
    simp only [bnd_ok, gVar_def, gC_def, gOp_def, gUn_def, gNil_def, gCons_def, gIf_def, gTest_def, gNot_def, gAnd_def, gOr_def, gAndV_def, gOrV_def, gNotV_def, gCB_def, asB_b, hAdd_i, hSub_i, hLt_i, hLe_i, hGt_i, hGe_i, hMul_r, hMul_l, hMod_i, hDiv_s, hBand_i, hShr_i, hPow_10_18, hPow_10_27, hPow_10_28, hPow_10_29, hPow_10_30, hEq_i, hNe_i, hLen_l, hLen_t, hMin2_i, hMax2_i, hMin3_i, hInt1_b, hInt1_i, hBits_i, hListOf_l, hListOf_t, hTupOf_l, hTupOf_t, gSeqS_def, gSet_def, gRet_def, gIfS_def, gNext_def, gTup_def, gLst_def, List.getElem?_cons_zero, List.getElem?_cons_succ, List.set_cons_zero, List.set_cons_succ, List.length_cons, List.length_nil, Nat.zero_add, Nat.reduceAdd, Nat.reduceLeDiff, Nat.reduceSub, Nat.reduceMul, if_true, if_false, Bool.false_eq_true, List.replicate_succ, List.replicate_zero, List.cons_append, List.nil_append, tgN, tgT, tgCons, tgNil, Int.reducePow, Int.reduceAdd, Int.reduceSub, Int.reduceMul, decide_true, decide_false, Bool.not_true, Bool.not_false, gChain_def, hIsa_int, hIsa_intb, hIsa_list, hIsa_tuple, gDrop_def, gCallN_def, gAsg_def, gSl_def, gNoPart_def, gPart_def, hSl_from', hSl_to', e1, k1, k6]
  refine fnN_nx (ρ := [.int k]) ?_
  show g_look_at_layers [.int k] = _
  unfold g_look_at_layers
  simp only [bnd_ok, gVar_def, gC_def, gOp_def, gUn_def, gNil_def, gCons_def, gIf_def, gTest_def, gNot_def, gAnd_def, gOr_def, gAndV_def, gOrV_def, gNotV_def, gCB_def, asB_b, hAdd_i, hSub_i, hLt_i, hLe_i, hGt_i, hGe_i, hMul_r, hMul_l, hMod_i, hDiv_s, hBand_i, hShr_i, hPow_10_18, hPow_10_27, hPow_10_28, hPow_10_29, hPow_10_30, hEq_i, hNe_i, hLen_l, hLen_t, hMin2_i, hMax2_i, hMin3_i, hInt1_b, hInt1_i, hBits_i, hListOf_l, hListOf_t, hTupOf_l, hTupOf_t, gSeqS_def, gSet_def, gRet_def, gIfS_def, gNext_def, gTup_def, gLst_def, List.getElem?_cons_zero, List.getElem?_cons_succ, List.set_cons_zero, List.set_cons_succ, List.length_cons, List.length_nil, Nat.zero_add, Nat.reduceAdd, Nat.reduceLeDiff, Nat.reduceSub, Nat.reduceMul, if_true, if_false, Bool.false_eq_true, List.replicate_succ, List.replicate_zero, List.cons_append, List.nil_append, tgN, tgT, tgCons, tgNil, Int.reducePow, Int.reduceAdd, Int.reduceSub, Int.reduceMul, decide_true, decide_false, Bool.not_true, Bool.not_false, gChain_def, hIsa_int, hIsa_intb, hIsa_list, hIsa_tuple, gDrop_def, gCallN_def, gAsg_def, gSl_def, gNoPart_def, gPart_def, hSl_from', hSl_to', e2]
/-- the ties lie among the places -/
def InN (n : Int) (r : List T3) : Prop := ∀ t ∈ r, (0 ≤ t.2.1 ∧ t.2.1 < n) ∧ 0 ≤ t.2.2 ∧ t.2.2 < n
theorem set_map_enc (rows : List (List Int)) (j : Nat) (ms : List Int) : (rows.map encI).set j (encI ms) = (rows.set j ms).map encI := (List.map_set ..).symm
theorem layered_ok {n : Int} {k : Nat} {r : List T3} (hr : InN n r) (hl : r.length ≤ 1000) (n1 : 1 ≤ n) (n10 : n ≤ 10) (k1 : 1 ≤ k) (k6 : k ≤ 6) :
    f_layered [.int n, .list (r.map enc3), .int (k : Nat)] = .ok (.list ((lay k r).map .int)) := by
  refine fnL_rt ?_
  show g_layered [.int n, .list (r.map enc3), .int (k : Nat), .none, .none, .none, .none, .none, .none] = _
  unfold g_layered
  have hlook := look_ok (k := k) (by omega) (by omega)
  have rg : ∀ x, gLsI (gRng1 (gCons (gVar 0) gNil)) [.int n, .list (r.map enc3), .int (k : Nat), .none, .int x, .none, .none, .none, .none] = .ok (encI (pl n)) := fun x => by
    rw [lsI_ok (ds := (pl n).map .int) (by rw [rng1_ok (show gCons (gVar 0) gNil _ = .ok [.int n] from rfl) (by omega) (by omega), rangeD_pl]) (by rw [List.length_map, pl_len]; omega)]
    rfl
  have hrows : gLc (gRng1 (gCons (gVar 2) (gNil))) (tgN 4) (gYes) (gLsI (gRng1 (gCons (gVar 0) gNil))) [.int n, .list (r.map enc3), .int (k : Nat), .none, .none, .none, .none, .none, .none] = .ok (.list ((List.replicate k (pl n)).map encI)) := by
    rw [gLc_map PyData.int (fun _ => true) (fun _ => encI (pl n)) (xs := pl k) (by rw [rng1_ok (show gCons (gVar 2) gNil _ = .ok [.int (k : Nat)] from rfl) (by omega) (by omega), rangeD_pl]) (by rw [pl_len]; omega) fun x _ => ⟨_, rfl, rfl, fun _ => rg x⟩]
    rw [List.filter_eq_self.mpr (fun _ _ => rfl), List.map_const', pl_len, List.map_replicate]
    rfl
  apply seq_step
  · simp (disch := first | omega | with_unfolding_all rfl | assumption | decide | (simp only [List.length_cons, List.length_nil]; omega)) only [bnd_ok, gVar_def, gC_def, gOp_def, gUn_def, gNil_def, gCons_def, gIf_def, gTest_def, gNot_def, gAnd_def, gOr_def, gAndV_def, gOrV_def, gNotV_def, gCB_def, asB_b, hAdd_i, hSub_i, hLt_i, hLe_i, hGt_i, hGe_i, hMul_r, hMul_l, hMod_i, hDiv_s, hBand_i, hShr_i, hPow_10_18, hPow_10_27, hPow_10_28, hPow_10_29, hPow_10_30, hEq_i, hNe_i, hLen_l, hLen_t, hMin2_i, hMax2_i, hMin3_i, hInt1_b, hInt1_i, hBits_i, hListOf_l, hListOf_t, hTupOf_l, hTupOf_t, gSeqS_def, gSet_def, gRet_def, gIfS_def, gNext_def, gTup_def, gLst_def, List.getElem?_cons_zero, List.getElem?_cons_succ, List.set_cons_zero, List.set_cons_succ, List.length_cons, List.length_nil, Nat.zero_add, Nat.reduceAdd, Nat.reduceLeDiff, Nat.reduceSub, Nat.reduceMul, if_true, if_false, Bool.false_eq_true, List.replicate_succ, List.replicate_zero, List.cons_append, List.nil_append, tgN, tgT, tgCons, tgNil, Int.reducePow, Int.reduceAdd, Int.reduceSub, Int.reduceMul, decide_true, decide_false, Bool.not_true, Bool.not_false, gChain_def, hIsa_int, hIsa_intb, hIsa_list, hIsa_tuple, gDrop_def, gCallN_def, gAsg_def, gSl_def, gNoPart_def, gPart_def, hSl_from', hSl_to', hlook]
    rfl
  apply seq_step
  · simp (disch := first | omega | with_unfolding_all rfl | assumption | decide | (simp only [List.length_cons, List.length_nil]; omega)) only [bnd_ok, gVar_def, gC_def, gOp_def, gUn_def, gNil_def, gCons_def, gIf_def, gTest_def, gNot_def, gAnd_def, gOr_def, gAndV_def, gOrV_def, gNotV_def, gCB_def, asB_b, hAdd_i, hSub_i, hLt_i, hLe_i, hGt_i, hGe_i, hMul_r, hMul_l, hMod_i, hDiv_s, hBand_i, hShr_i, hPow_10_18, hPow_10_27, hPow_10_28, hPow_10_29, hPow_10_30, hEq_i, hNe_i, hLen_l, hLen_t, hMin2_i, hMax2_i, hMin3_i, hInt1_b, hInt1_i, hBits_i, hListOf_l, hListOf_t, hTupOf_l, hTupOf_t, gSeqS_def, gSet_def, gRet_def, gIfS_def, gNext_def, gTup_def, gLst_def, List.getElem?_cons_zero, List.getElem?_cons_succ, List.set_cons_zero, List.set_cons_succ, List.length_cons, List.length_nil, Nat.zero_add, Nat.reduceAdd, Nat.reduceLeDiff, Nat.reduceSub, Nat.reduceMul, if_true, if_false, Bool.false_eq_true, List.replicate_succ, List.replicate_zero, List.cons_append, List.nil_append, tgN, tgT, tgCons, tgNil, Int.reducePow, Int.reduceAdd, Int.reduceSub, Int.reduceMul, decide_true, decide_false, Bool.not_true, Bool.not_false, gChain_def, hIsa_int, hIsa_intb, hIsa_list, hIsa_tuple, gDrop_def, gCallN_def, gAsg_def, gSl_def, gNoPart_def, gPart_def, hSl_from', hSl_to', hrows]
    rfl
  apply seq_step
  · simp (disch := first | omega | with_unfolding_all rfl | assumption | decide | (simp only [List.length_cons, List.length_nil]; omega)) only [bnd_ok, gVar_def, gC_def, gOp_def, gUn_def, gNil_def, gCons_def, gIf_def, gTest_def, gNot_def, gAnd_def, gOr_def, gAndV_def, gOrV_def, gNotV_def, gCB_def, asB_b, hAdd_i, hSub_i, hLt_i, hLe_i, hGt_i, hGe_i, hMul_r, hMul_l, hMod_i, hDiv_s, hBand_i, hShr_i, hPow_10_18, hPow_10_27, hPow_10_28, hPow_10_29, hPow_10_30, hEq_i, hNe_i, hLen_l, hLen_t, hMin2_i, hMax2_i, hMin3_i, hInt1_b, hInt1_i, hBits_i, hListOf_l, hListOf_t, hTupOf_l, hTupOf_t, gSeqS_def, gSet_def, gRet_def, gIfS_def, gNext_def, gTup_def, gLst_def, List.getElem?_cons_zero, List.getElem?_cons_succ, List.set_cons_zero, List.set_cons_succ, List.length_cons, List.length_nil, Nat.zero_add, Nat.reduceAdd, Nat.reduceLeDiff, Nat.reduceSub, Nat.reduceMul, if_true, if_false, Bool.false_eq_true, List.replicate_succ, List.replicate_zero, List.cons_append, List.nil_append, tgN, tgT, tgCons, tgNil, Int.reducePow, Int.reduceAdd, Int.reduceSub, Int.reduceMul, decide_true, decide_false, Bool.not_true, Bool.not_false, gChain_def, hIsa_int, hIsa_intb, hIsa_list, hIsa_tuple, gDrop_def, gCallN_def, gAsg_def, gSl_def, gNoPart_def, gPart_def, hSl_from', hSl_to', Nat.zero_le]
    rfl
  obtain ⟨ρ', hf, rows, x4, x6, x7, x8, rfl, hR⟩ := forE_ix enc3 (h := tgT (tgCons (tgN 6) (tgCons (tgN 7) (tgCons (tgN 8) (tgNil))))) (b := g_layered_L1) r.reverse
    (fun i ρ => ∃ rows x4 x6 x7 x8, ρ = [.int n, .list (r.map enc3), .int (k : Nat), .list (rows.map encI), x4, .list ((lay k (r.reverse.take i).reverse).reverse.map .int), x6, x7, x8] ∧ RowsOk n k rows (r.reverse.take i).reverse)
    (ρ := [.int n, .list (r.map enc3), .int (k : Nat), .list ((List.replicate k (pl n)).map encI), .none, .list [], .none, .none, .none]) ⟨_, _, _, _, _, rfl, RowsOk.zero⟩ (by
      rintro i ρ hi ⟨rows, x4, x6, x7, x8, rfl, hR⟩
      have ht := hr r.reverse[i] (List.mem_reverse.mp (List.getElem_mem hi))
      have es : (r.reverse.take (i + 1)).reverse = r.reverse[i] :: (r.reverse.take i).reverse := by
        rw [List.take_add_one, List.getElem?_eq_getElem hi, List.reverse_append]
        rfl
      rw [es, lay_cons]
      generalize hs : (r.reverse.take i).reverse = s at *
      have ls : s.length = i := by rw [← hs, List.length_reverse, List.length_take]; omega
      generalize r.reverse[i] = t at *
      obtain ⟨⟨a0, a1⟩, b0, b1⟩ := ht
      have hm : ∀ ms ∈ rows, ms.length = n.toNat := fun ms h => by
        obtain ⟨j, hj, e⟩ := List.getElem_of_mem h
        rw [← e]
        exact (hR.mkr j hj).len
      have e4 := layer_for_ok (rows := rows) a0 (by omega : t.2.1.toNat < n.toNat) b0 (by omega : t.2.2.toNat < n.toNat) hm
      have e5 := hR.num a0 a1 b0 b1
      rw [e5] at e4
      obtain ⟨c0, c1⟩ := num_range k s (lay k s) t.2.1 t.2.2
      have lrev : ((lay k s).reverse.map PyData.int).length < 100000 := by
        rw [List.length_map, List.length_reverse, lay_len]
        rw [List.length_reverse] at hi
        omega
      have eapp : ∀ x : Int, (lay k s).reverse.map PyData.int ++ [.int x] = (x :: lay k s).reverse.map PyData.int := fun x => by rw [List.reverse_cons, List.map_append]; rfl
      have etg : tgT (tgCons (tgN 6) (tgCons (tgN 7) (tgCons (tgN 8) (tgNil)))) (enc3 t) [.int n, .list (r.map enc3), .int (k : Nat), .list (rows.map encI), x4, .list ((lay k s).reverse.map .int), x6, x7, x8] = .ok [.int n, .list (r.map enc3), .int (k : Nat), .list (rows.map encI), x4, .list ((lay k s).reverse.map .int), .int t.1, .int t.2.1, .int t.2.2] := rfl
      by_cases c : num k s (lay k s) t.2.1 t.2.2 = 0
      · refine ⟨_, _, etg, .inl ?_, rows, .int 0, .int t.1, .int t.2.1, .int t.2.2, rfl, hR.stay c⟩
        unfold g_layered_L1
        rw [c] at e4 ⊢
        apply seq_step
        · simp (disch := first | omega | with_unfolding_all rfl | assumption | decide | (simp only [List.length_cons, List.length_nil]; omega)) only [bnd_ok, gVar_def, gC_def, gOp_def, gUn_def, gNil_def, gCons_def, gIf_def, gTest_def, gNot_def, gAnd_def, gOr_def, gAndV_def, gOrV_def, gNotV_def, gCB_def, asB_b, hAdd_i, hSub_i, hLt_i, hLe_i, hGt_i, hGe_i, hMul_r, hMul_l, hMod_i, hDiv_s, hBand_i, hShr_i, hPow_10_18, hPow_10_27, hPow_10_28, hPow_10_29, hPow_10_30, hEq_i, hNe_i, hLen_l, hLen_t, hMin2_i, hMax2_i, hMin3_i, hInt1_b, hInt1_i, hBits_i, hListOf_l, hListOf_t, hTupOf_l, hTupOf_t, gSeqS_def, gSet_def, gRet_def, gIfS_def, gNext_def, gTup_def, gLst_def, List.getElem?_cons_zero, List.getElem?_cons_succ, List.set_cons_zero, List.set_cons_succ, List.length_cons, List.length_nil, Nat.zero_add, Nat.reduceAdd, Nat.reduceLeDiff, Nat.reduceSub, Nat.reduceMul, if_true, if_false, Bool.false_eq_true, List.replicate_succ, List.replicate_zero, List.cons_append, List.nil_append, tgN, tgT, tgCons, tgNil, Int.reducePow, Int.reduceAdd, Int.reduceSub, Int.reduceMul, decide_true, decide_false, Bool.not_true, Bool.not_false, gChain_def, hIsa_int, hIsa_intb, hIsa_list, hIsa_tuple, gDrop_def, gCallN_def, gAsg_def, gSl_def, gNoPart_def, gPart_def, hSl_from', hSl_to', e4]
          rfl
        apply seq_step
        · simp (disch := first | omega | with_unfolding_all rfl | assumption | decide | (simp only [List.length_cons, List.length_nil]; omega)) only [bnd_ok, gVar_def, gC_def, gOp_def, gUn_def, gNil_def, gCons_def, gIf_def, gTest_def, gNot_def, gAnd_def, gOr_def, gAndV_def, gOrV_def, gNotV_def, gCB_def, asB_b, hAdd_i, hSub_i, hLt_i, hLe_i, hGt_i, hGe_i, hMul_r, hMul_l, hMod_i, hDiv_s, hBand_i, hShr_i, hPow_10_18, hPow_10_27, hPow_10_28, hPow_10_29, hPow_10_30, hEq_i, hNe_i, hLen_l, hLen_t, hMin2_i, hMax2_i, hMin3_i, hInt1_b, hInt1_i, hBits_i, hListOf_l, hListOf_t, hTupOf_l, hTupOf_t, gSeqS_def, gSet_def, gRet_def, gIfS_def, gNext_def, gTup_def, gLst_def, List.getElem?_cons_zero, List.getElem?_cons_succ, List.set_cons_zero, List.set_cons_succ, List.length_cons, List.length_nil, Nat.zero_add, Nat.reduceAdd, Nat.reduceLeDiff, Nat.reduceSub, Nat.reduceMul, if_true, if_false, Bool.false_eq_true, List.replicate_succ, List.replicate_zero, List.cons_append, List.nil_append, tgN, tgT, tgCons, tgNil, Int.reducePow, Int.reduceAdd, Int.reduceSub, Int.reduceMul, decide_true, decide_false, Bool.not_true, Bool.not_false, gChain_def, hIsa_int, hIsa_intb, hIsa_list, hIsa_tuple, gDrop_def, gCallN_def, gAsg_def, gSl_def, gNoPart_def, gPart_def, hSl_from', hSl_to', Int.lt_irrefl]
          rfl
        rw [gApp_l rfl rfl lrev, eapp]
        rfl
      · obtain ⟨j, ej⟩ : ∃ j : Nat, num k s (lay k s) t.2.1 t.2.2 = (j : Int) + 1 := ⟨(num k s (lay k s) t.2.1 t.2.2 - 1).toNat, by omega⟩
        have hj : j < rows.length := by rw [hR.len]; omega
        have lj := (hR.mkr j hj).len
        obtain ⟨x, y, hj1, hj2⟩ := joined_ok (ms := rows[j]) a0 (by omega : t.2.1.toNat < rows[j].length) b0 (by omega) (by omega)
        refine ⟨_, _, etg, .inl ?_, _, .int ((j : Int) + 1), .int t.1, .int t.2.1, .int t.2.2, rfl, hR.put a0 a1 b0 b1 hj ej hj2⟩
        unfold g_layered_L1
        rw [ej] at e4 ⊢
        have p1 : (0 : Int) < (j : Int) + 1 := by omega
        have es : (j : Int) + 1 - 1 = (j : Int) := by omega
        have eix : hIx (.list (rows.map encI)) (.int (j : Int)) = .ok (encI rows[j]) := hIx_l (by rw [atI_map _ (by omega) (by omega)]; rfl)
        apply seq_step
        · simp (disch := first | omega | with_unfolding_all rfl | assumption | decide | (simp only [List.length_cons, List.length_nil]; omega)) only [bnd_ok, gVar_def, gC_def, gOp_def, gUn_def, gNil_def, gCons_def, gIf_def, gTest_def, gNot_def, gAnd_def, gOr_def, gAndV_def, gOrV_def, gNotV_def, gCB_def, asB_b, hAdd_i, hSub_i, hLt_i, hLe_i, hGt_i, hGe_i, hMul_r, hMul_l, hMod_i, hDiv_s, hBand_i, hShr_i, hPow_10_18, hPow_10_27, hPow_10_28, hPow_10_29, hPow_10_30, hEq_i, hNe_i, hLen_l, hLen_t, hMin2_i, hMax2_i, hMin3_i, hInt1_b, hInt1_i, hBits_i, hListOf_l, hListOf_t, hTupOf_l, hTupOf_t, gSeqS_def, gSet_def, gRet_def, gIfS_def, gNext_def, gTup_def, gLst_def, List.getElem?_cons_zero, List.getElem?_cons_succ, List.set_cons_zero, List.set_cons_succ, List.length_cons, List.length_nil, Nat.zero_add, Nat.reduceAdd, Nat.reduceLeDiff, Nat.reduceSub, Nat.reduceMul, if_true, if_false, Bool.false_eq_true, List.replicate_succ, List.replicate_zero, List.cons_append, List.nil_append, tgN, tgT, tgCons, tgNil, Int.reducePow, Int.reduceAdd, Int.reduceSub, Int.reduceMul, decide_true, decide_false, Bool.not_true, Bool.not_false, gChain_def, hIsa_int, hIsa_intb, hIsa_list, hIsa_tuple, gDrop_def, gCallN_def, gAsg_def, gSl_def, gNoPart_def, gPart_def, hSl_from', hSl_to', e4]
          rfl
        apply seq_step
        · rw [if_t (by simp only [bnd_ok, gVar_def, gC_def, gOp_def, gUn_def, gNil_def, gCons_def, gIf_def, gTest_def, gNot_def, gAnd_def, gOr_def, gAndV_def, gOrV_def, gNotV_def, gCB_def, asB_b, hAdd_i, hSub_i, hLt_i, hLe_i, hGt_i, hGe_i, hMul_r, hMul_l, hMod_i, hDiv_s, hBand_i, hShr_i, hPow_10_18, hPow_10_27, hPow_10_28, hPow_10_29, hPow_10_30, hEq_i, hNe_i, hLen_l, hLen_t, hMin2_i, hMax2_i, hMin3_i, hInt1_b, hInt1_i, hBits_i, hListOf_l, hListOf_t, hTupOf_l, hTupOf_t, gSeqS_def, gSet_def, gRet_def, gIfS_def, gNext_def, gTup_def, gLst_def, List.getElem?_cons_zero, List.getElem?_cons_succ, List.set_cons_zero, List.set_cons_succ, List.length_cons, List.length_nil, Nat.zero_add, Nat.reduceAdd, Nat.reduceLeDiff, Nat.reduceSub, Nat.reduceMul, if_true, if_false, Bool.false_eq_true, List.replicate_succ, List.replicate_zero, List.cons_append, List.nil_append, tgN, tgT, tgCons, tgNil, Int.reducePow, Int.reduceAdd, Int.reduceSub, Int.reduceMul, decide_true, decide_false, Bool.not_true, Bool.not_false, gChain_def, hIsa_int, hIsa_intb, hIsa_list, hIsa_tuple, gDrop_def, p1])]
          refine setI_ok (ds := rows.map encI) (d := encI (rows[j].map fun m => if m = x then y else m)) (j := (j : Int)) ?_ rfl ?_ (by omega) (by rw [List.length_map]; omega)
          · simp only [bnd_ok, gVar_def, gC_def, gOp_def, gUn_def, gNil_def, gCons_def, gIf_def, gTest_def, gNot_def, gAnd_def, gOr_def, gAndV_def, gOrV_def, gNotV_def, gCB_def, asB_b, hAdd_i, hSub_i, hLt_i, hLe_i, hGt_i, hGe_i, hMul_r, hMul_l, hMod_i, hDiv_s, hBand_i, hShr_i, hPow_10_18, hPow_10_27, hPow_10_28, hPow_10_29, hPow_10_30, hEq_i, hNe_i, hLen_l, hLen_t, hMin2_i, hMax2_i, hMin3_i, hInt1_b, hInt1_i, hBits_i, hListOf_l, hListOf_t, hTupOf_l, hTupOf_t, gSeqS_def, gSet_def, gRet_def, gIfS_def, gNext_def, gTup_def, gLst_def, List.getElem?_cons_zero, List.getElem?_cons_succ, List.set_cons_zero, List.set_cons_succ, List.length_cons, List.length_nil, Nat.zero_add, Nat.reduceAdd, Nat.reduceLeDiff, Nat.reduceSub, Nat.reduceMul, if_true, if_false, Bool.false_eq_true, List.replicate_succ, List.replicate_zero, List.cons_append, List.nil_append, tgN, tgT, tgCons, tgNil, Int.reducePow, Int.reduceAdd, Int.reduceSub, Int.reduceMul, decide_true, decide_false, Bool.not_true, Bool.not_false, gChain_def, hIsa_int, hIsa_intb, hIsa_list, hIsa_tuple, gDrop_def, gCallN_def, gAsg_def, gSl_def, gNoPart_def, gPart_def, hSl_from', hSl_to', es, eix, hj1]
          · simp only [bnd_ok, gVar_def, gC_def, gOp_def, gUn_def, gNil_def, gCons_def, gIf_def, gTest_def, gNot_def, gAnd_def, gOr_def, gAndV_def, gOrV_def, gNotV_def, gCB_def, asB_b, hAdd_i, hSub_i, hLt_i, hLe_i, hGt_i, hGe_i, hMul_r, hMul_l, hMod_i, hDiv_s, hBand_i, hShr_i, hPow_10_18, hPow_10_27, hPow_10_28, hPow_10_29, hPow_10_30, hEq_i, hNe_i, hLen_l, hLen_t, hMin2_i, hMax2_i, hMin3_i, hInt1_b, hInt1_i, hBits_i, hListOf_l, hListOf_t, hTupOf_l, hTupOf_t, gSeqS_def, gSet_def, gRet_def, gIfS_def, gNext_def, gTup_def, gLst_def, List.getElem?_cons_zero, List.getElem?_cons_succ, List.set_cons_zero, List.set_cons_succ, List.length_cons, List.length_nil, Nat.zero_add, Nat.reduceAdd, Nat.reduceLeDiff, Nat.reduceSub, Nat.reduceMul, if_true, if_false, Bool.false_eq_true, List.replicate_succ, List.replicate_zero, List.cons_append, List.nil_append, tgN, tgT, tgCons, tgNil, Int.reducePow, Int.reduceAdd, Int.reduceSub, Int.reduceMul, decide_true, decide_false, Bool.not_true, Bool.not_false, gChain_def, hIsa_int, hIsa_intb, hIsa_list, hIsa_tuple, gDrop_def, es]
        · rw [Int.toNat_natCast, set_map_enc]
          simp only [bnd_ok, gVar_def, gC_def, gOp_def, gUn_def, gNil_def, gCons_def, gIf_def, gTest_def, gNot_def, gAnd_def, gOr_def, gAndV_def, gOrV_def, gNotV_def, gCB_def, asB_b, hAdd_i, hSub_i, hLt_i, hLe_i, hGt_i, hGe_i, hMul_r, hMul_l, hMod_i, hDiv_s, hBand_i, hShr_i, hPow_10_18, hPow_10_27, hPow_10_28, hPow_10_29, hPow_10_30, hEq_i, hNe_i, hLen_l, hLen_t, hMin2_i, hMax2_i, hMin3_i, hInt1_b, hInt1_i, hBits_i, hListOf_l, hListOf_t, hTupOf_l, hTupOf_t, gSeqS_def, gSet_def, gRet_def, gIfS_def, gNext_def, gTup_def, gLst_def, List.getElem?_cons_zero, List.getElem?_cons_succ, List.set_cons_zero, List.set_cons_succ, List.length_cons, List.length_nil, Nat.zero_add, Nat.reduceAdd, Nat.reduceLeDiff, Nat.reduceSub, Nat.reduceMul, if_true, if_false, Bool.false_eq_true, List.replicate_succ, List.replicate_zero, List.cons_append, List.nil_append, tgN, tgT, tgCons, tgNil, Int.reducePow, Int.reduceAdd, Int.reduceSub, Int.reduceMul, decide_true, decide_false, Bool.not_true, Bool.not_false, gChain_def, hIsa_int, hIsa_intb, hIsa_list, hIsa_tuple, gDrop_def]
          rw [gApp_l rfl rfl lrev, eapp]
          rfl)
  refine seq_step (for_ok (ds := r.reverse.map enc3) ?_ hf) ?_
  · refine (rev_ok (es := r.map enc3) (by rfl)).trans ?_
    rw [List.map_reverse]
  · rw [List.take_length, List.reverse_reverse] 
    refine ret_ok ?_
    refine (lsI_ok (rev_ok (es := (lay k r).reverse.map .int) (by rfl)) (by rw [List.length_reverse, List.length_map, List.length_reverse, lay_len]; omega)).trans ?_
    rw [← List.map_reverse, List.reverse_reverse]
theorem depth_ok {x : Int} (h0 : 0 ≤ x) : ∃ k : Nat, f_l_depth [.int x] = .ok (.int (k : Nat)) ∧ 1 ≤ k ∧ k ≤ 6 := by
  have h : f_l_depth [.int x] = .ok (.int (if x % 8 = 1 then 1 + x / 32 % 6 else 1 + x % 4)) := by
    refine fnN_rt ?_
    show g_l_depth [.int x] = _
    unfold g_l_depth
    by_cases c : x % 8 = 1
    · have e : (x % 8 == 1) = true := by simp [c]
      have e2 : hIx (.list [.int (1 + x % 4), .int (1 + x / 32 % 6)]) (.int 1) = .ok (.int (1 + x / 32 % 6)) := rfl
      rw [if_pos c]
      simp (disch := first | omega | decide) only [bnd_ok, gVar_def, gC_def, gOp_def, gUn_def, gNil_def, gCons_def, gIf_def, gTest_def, gNot_def, gAnd_def, gOr_def, gAndV_def, gOrV_def, gNotV_def, gCB_def, asB_b, hAdd_i, hSub_i, hLt_i, hLe_i, hGt_i, hGe_i, hMul_r, hMul_l, hMod_i, hDiv_s, hBand_i, hShr_i, hPow_10_18, hPow_10_27, hPow_10_28, hPow_10_29, hPow_10_30, hEq_i, hNe_i, hLen_l, hLen_t, hMin2_i, hMax2_i, hMin3_i, hInt1_b, hInt1_i, hBits_i, hListOf_l, hListOf_t, hTupOf_l, hTupOf_t, gSeqS_def, gSet_def, gRet_def, gIfS_def, gNext_def, gTup_def, gLst_def, List.getElem?_cons_zero, List.getElem?_cons_succ, List.set_cons_zero, List.set_cons_succ, List.length_cons, List.length_nil, Nat.zero_add, Nat.reduceAdd, Nat.reduceLeDiff, Nat.reduceSub, Nat.reduceMul, if_true, if_false, Bool.false_eq_true, List.replicate_succ, List.replicate_zero, List.cons_append, List.nil_append, tgN, tgT, tgCons, tgNil, Int.reducePow, Int.reduceAdd, Int.reduceSub, Int.reduceMul, decide_true, decide_false, Bool.not_true, Bool.not_false, gChain_def, hIsa_int, hIsa_intb, hIsa_list, hIsa_tuple, gDrop_def, e, e2]
    · have e : (x % 8 == 1) = false := by simp [c]
      have e2 : hIx (.list [.int (1 + x % 4), .int (1 + x / 32 % 6)]) (.int 0) = .ok (.int (1 + x % 4)) := rfl
      rw [if_neg c]
      simp (disch := first | omega | decide) only [bnd_ok, gVar_def, gC_def, gOp_def, gUn_def, gNil_def, gCons_def, gIf_def, gTest_def, gNot_def, gAnd_def, gOr_def, gAndV_def, gOrV_def, gNotV_def, gCB_def, asB_b, hAdd_i, hSub_i, hLt_i, hLe_i, hGt_i, hGe_i, hMul_r, hMul_l, hMod_i, hDiv_s, hBand_i, hShr_i, hPow_10_18, hPow_10_27, hPow_10_28, hPow_10_29, hPow_10_30, hEq_i, hNe_i, hLen_l, hLen_t, hMin2_i, hMax2_i, hMin3_i, hInt1_b, hInt1_i, hBits_i, hListOf_l, hListOf_t, hTupOf_l, hTupOf_t, gSeqS_def, gSet_def, gRet_def, gIfS_def, gNext_def, gTup_def, gLst_def, List.getElem?_cons_zero, List.getElem?_cons_succ, List.set_cons_zero, List.set_cons_succ, List.length_cons, List.length_nil, Nat.zero_add, Nat.reduceAdd, Nat.reduceLeDiff, Nat.reduceSub, Nat.reduceMul, if_true, if_false, Bool.false_eq_true, List.replicate_succ, List.replicate_zero, List.cons_append, List.nil_append, tgN, tgT, tgCons, tgNil, Int.reducePow, Int.reduceAdd, Int.reduceSub, Int.reduceMul, decide_true, decide_false, Bool.not_true, Bool.not_false, gChain_def, hIsa_int, hIsa_intb, hIsa_list, hIsa_tuple, gDrop_def, e, e2]
  refine ⟨(if x % 8 = 1 then 1 + x / 32 % 6 else 1 + x % 4).toNat, ?_, ?_, ?_⟩
  · rw [h]
    congr 2
    split <;> omega
  · split <;> omega
  · split <;> omega
end FamL
end T_FamLP

section T_FlowL
set_option linter.all false
namespace FlowL
open PySem Sim
def g_can_go : Gs := gSeqS (gAsg (gVar 1) (tgT (tgCons (tgN 3) (tgCons (tgN 4) (tgCons (tgN 5) (tgNil)))))) (gSeqS (gIfS (gTest (gOp hEq (gVar 4) (gVar 5))) (gRet (gC .none)) (gNext)) (gSeqS (gIfS (gAnd (gTest (gOp hEq (gVar 2) (gVar 4))) (gTest (gOp hLt (gOp hDIx (gVar 0) (gVar 3)) (gC (.int (1)))))) (gRet (gPur (gVar 5))) (gNext)) (gSeqS (gIfS (gAnd (gTest (gOp hEq (gVar 2) (gVar 5))) (gTest (gOp hGt (gOp hDIx (gVar 0) (gVar 3)) (gUn (hU fun i => -i) (gC (.int (1))))))) (gRet (gPur (gVar 4))) (gNext)) (gRet (gC .none)))))
def f_can_go : List Dt → O Dt := fnN 6 g_can_go
def g_spread_L1 : Gs := gSeqS (gSet 9 (gCallN 3 f_can_go (gCons (gVar 0) (gCons (gVar 8) (gCons (gVar 7) (gNil)))))) (gIfS (gAnd (gTest (gOp hIsNot (gVar 9) (gC .none))) (gTest (gDIn true 4 (gVar 9)))) (gSeqS (gDPut 4 (gPur (gTup (gCons (gVar 7) (gCons (gVar 8) (gNil))))) (gVar 9)) (gApp 5 (gVar 9))) (gNext))
def g_spread_L2 : Gs := gSeqS (gSet 7 (gOp hIx (gVar 5) (gVar 6))) (gSeqS (gFor (gSeq (gVar 1)) (tgN 8) g_spread_L1) (gSet 6 (gOp hAdd (gVar 6) (gC (.int (1))))))
def g_spread_T2 : List Dt → O Bool := gAnd (gTest (gOp hLt (gVar 6) (gCB hLen (gCons (gVar 5) (gNil))))) (gTest (gDIn true 4 (gVar 3)))
def g_spread : Gs := gSeqS (gSet 4 (gDNew1 (gVar 2) (gC .none))) (gSeqS (gSet 5 (gLst (gCons (gVar 2) (gNil)))) (gSeqS (gSet 6 (gC (.int (0)))) (gSeqS (gWhile g_spread_T2 g_spread_L2 1000) (gRet (gVar 4)))))
def f_spread : List Dt → O Dt := fnN 10 g_spread
def g_push_L1 : Gs := gSeqS (gAsg (gOp hDIx (gVar 1) (gVar 3)) (tgT (tgCons (tgN 4) (tgCons (tgN 5) (tgNil))))) (gSeqS (gIfS (gTest (gOp hEq (gVar 4) (gOp hIx (gVar 5) (gC (.int (1)))))) (gDPut 0 (gOp hAdd (gOp hDIx (gVar 0) (gOp hIx (gVar 5) (gC (.int (0))))) (gC (.int (1)))) (gOp hIx (gVar 5) (gC (.int (0))))) (gDPut 0 (gOp hSub (gOp hDIx (gVar 0) (gOp hIx (gVar 5) (gC (.int (0))))) (gC (.int (1)))) (gOp hIx (gVar 5) (gC (.int (0)))))) (gSet 3 (gVar 4)))
def g_push_T1 : List Dt → O Bool := gTest (gOp hIsNot (gOp hDIx (gVar 1) (gVar 3)) (gC .none))
def g_push : Gs := gSeqS (gSet 3 (gVar 2)) (gWhile g_push_T1 g_push_L1 1000)
def f_push : List Dt → O Dt := fnM 6 g_push
def g_next_tie_L1 : Gs := gSeqS (gIfS (gAnd (gTest (gOp hEq (gOp hIx (gVar 3) (gC (.int (1)))) (gVar 2))) (gTest (gOp hEq (gOp hDIx (gVar 0) (gOp hIx (gVar 3) (gC (.int (0))))) (gC (.int (1)))))) (gRet (gPur (gTup (gCons (gOp hIx (gVar 3) (gC (.int (0)))) (gCons (gOp hIx (gVar 3) (gC (.int (2)))) (gNil)))))) (gNext)) (gIfS (gAnd (gTest (gOp hEq (gOp hIx (gVar 3) (gC (.int (2)))) (gVar 2))) (gTest (gOp hEq (gOp hDIx (gVar 0) (gOp hIx (gVar 3) (gC (.int (0))))) (gUn (hU fun i => -i) (gC (.int (1))))))) (gRet (gPur (gTup (gCons (gOp hIx (gVar 3) (gC (.int (0)))) (gCons (gOp hIx (gVar 3) (gC (.int (1)))) (gNil)))))) (gNext))
def g_next_tie : Gs := gSeqS (gFor (gSeq (gVar 1)) (tgN 3) g_next_tie_L1) (gRet (gC .none))
def f_next_tie : List Dt → O Dt := fnN 4 g_next_tie
def g_one_way_L1 : Gs := gSeqS (gAsg (gCallN 3 f_next_tie (gCons (gVar 0) (gCons (gVar 1) (gCons (gVar 5) (gNil))))) (tgT (tgCons (tgN 6) (tgCons (tgN 5) (tgNil))))) (gSeqS (gDPut 0 (gC (.int (0))) (gVar 6)) (gApp 4 (gVar 6)))
def g_one_way_T1 : List Dt → O Bool := gTest (gOp hNe (gVar 5) (gVar 3))
def g_one_way : Gs := gSeqS (gSet 4 (gLst (gNil))) (gSeqS (gSet 5 (gVar 2)) (gSeqS (gWhile g_one_way_T1 g_one_way_L1 1000) (xRetMO 4)))
def f_one_way : List Dt → O Dt := fnL 7 g_one_way
def g_ways_and_side_L1 : Gs := gDPut 5 (gC (.int (0))) (gOp hIx (gVar 6) (gC (.int (0))))
def g_ways_and_side_L2 : Gs := gSeqS (gSet 9 (gCallN 4 f_spread (gCons (gVar 5) (gCons (gVar 1) (gCons (gVar 2) (gCons (gVar 3) (gNil))))))) (gIfS (gTest (gOp (hDInV false) (gVar 3) (gVar 9))) (gSeqS (xDrop (xCallM .ka 3 f_push 5 (xCons (xP (gVar 9)) (xCons (xP (gVar 3)) (xNil))))) (gSet 7 (gOp hAdd (gVar 7) (gC (.int (1)))))) (gSet 8 (gCB (one hTupOf) (gCons (gLc (gRng1 (gCons (gVar 0) (gNil))) (tgN 10) (gTest (gOp (hDInV false) (gVar 10) (gVar 9))) (gVar 10)) (gNil)))))
def g_ways_and_side_T2 : List Dt → O Bool := gAnd (gTest (gOp hLt (gVar 7) (gVar 4))) (gTest (gOp hIs (gVar 8) (gC .none)))
def g_ways_and_side : Gs := gSeqS (gSet 5 (gDNew)) (gSeqS (gFor (gSeq (gVar 1)) (tgN 6) g_ways_and_side_L1) (gSeqS (gSet 7 (gC (.int (0)))) (gSeqS (gSet 8 (gC .none)) (gSeqS (gWhile g_ways_and_side_T2 g_ways_and_side_L2 1000) (xRet (xTup (xCons (xLc [11] (gRng1 (gCons (gVar 7) (gNil))) (tgN 11) (gYes) (xCallM .ka 4 f_one_way 5 (xCons (xP (gVar 1)) (xCons (xP (gVar 2)) (xCons (xP (gVar 3)) (xNil)))))) (xCons (xP (gVar 8)) (xNil)))))))))
def f_ways_and_side : List Dt → O Dt := fnN 12 g_ways_and_side
end FlowL
end T_FlowL

section T_FlowM
set_option linter.all false
set_option maxRecDepth 100000
/-! FlowM: flows of -1, 0, 1 along ties; rims. Plain. -/
namespace Flow
open PySem Sim FamA

/-- what flows from potential to potential -/
def fsum (φ : Int → Int) (P : Int → Int) : List T3 → Int
  | [] => 0
  | t :: ts => φ t.1 * (P t.2.1 - P t.2.2) + fsum φ P ts
def upd (φ : Int → Int) (m z : Int) : Int → Int := fun x => if x = m then z else φ x
theorem upd_self (φ : Int → Int) (m z : Int) : upd φ m z m = z := if_pos rfl
theorem upd_ne {φ : Int → Int} {m z x : Int} (h : x ≠ m) : upd φ m z x = φ x := if_neg h
def Dst (ts : List T3) : Prop := ts.Pairwise fun s t => s.1 ≠ t.1
theorem dst_inj : ∀ {ts : List T3} {s t : T3}, Dst ts → s ∈ ts → t ∈ ts → s.1 = t.1 → s = t
  | [], _, _, _, h, _, _ => by cases h
  | u :: ts, s, t, hd, hs, ht, e => by
    obtain ⟨h1, h2⟩ := List.pairwise_cons.mp hd
    rcases List.mem_cons.mp hs with es | hs
    · rcases List.mem_cons.mp ht with et | ht
      · rw [es, et]
      · exact absurd (es ▸ e) (h1 t ht)
    · rcases List.mem_cons.mp ht with et | ht
      · exact absurd (et ▸ e).symm (h1 s hs)
      · exact dst_inj h2 hs ht e
theorem fsum_out {φ P : Int → Int} {m z : Int} : ∀ {ts : List T3}, (∀ t ∈ ts, t.1 ≠ m) → fsum (upd φ m z) P ts = fsum φ P ts
  | [], _ => rfl
  | t :: ts, h => by
    unfold fsum
    rw [upd_ne (h t List.mem_cons_self), fsum_out fun s hs => h s (List.mem_cons_of_mem _ hs)]
theorem fsum_upd {φ P : Int → Int} {z : Int} {t : T3} : ∀ {ts : List T3}, Dst ts → t ∈ ts → fsum (upd φ t.1 z) P ts = fsum φ P ts + (z - φ t.1) * (P t.2.1 - P t.2.2)
  | [], _, h => by cases h
  | s :: ts, hd, h => by
    obtain ⟨h1, h2⟩ := List.pairwise_cons.mp hd
    unfold fsum
    by_cases c : s.1 = t.1
    · have e : s = t := by
        rcases List.mem_cons.mp h with e | h'
        · exact e.symm
        · exact absurd c (h1 t h')
      subst e
      rw [upd_self, fsum_out fun u hu => (h1 u hu).symm, Int.sub_mul]
      omega
    · have h' : t ∈ ts := by
        rcases List.mem_cons.mp h with e | h'
        · exact absurd (by rw [e]) c
        · exact h'
      rw [upd_ne c, fsum_upd h2 h']
      omega

/-! ### sides -/
def ind (S : Int → Bool) : Int → Int := fun p => if S p then 1 else 0
def rimB (S : Int → Bool) (t : T3) : Bool := S t.2.1 != S t.2.2
def rimN (ts : List T3) (S : Int → Bool) : Nat := (ts.filter (rimB S)).length
theorem rimN_cons (t : T3) (ts : List T3) (S : Int → Bool) : rimN (t :: ts) S = (if rimB S t then 1 else 0) + rimN ts S := by
  unfold rimN
  rw [List.filter_cons]
  split
  · rw [List.length_cons]; omega
  · omega
structure Unit1 (φ : Int → Int) (ts : List T3) : Prop where
  lo : ∀ t ∈ ts, -1 ≤ φ t.1
  hi : ∀ t ∈ ts, φ t.1 ≤ 1
  loop : ∀ t ∈ ts, t.2.1 = t.2.2 → φ t.1 = 0
theorem cut_le {φ : Int → Int} {S : Int → Bool} : ∀ {ts : List T3}, (∀ t ∈ ts, -1 ≤ φ t.1) → (∀ t ∈ ts, φ t.1 ≤ 1) → fsum φ (ind S) ts ≤ rimN ts S
  | [], _, _ => by unfold fsum rimN; simp
  | t :: ts, h1, h2 => by
    have ih := cut_le (S := S) (fun s hs => h1 s (List.mem_cons_of_mem _ hs)) (fun s hs => h2 s (List.mem_cons_of_mem _ hs))
    have a1 := h1 t List.mem_cons_self
    have a2 := h2 t List.mem_cons_self
    have i1 : ind S t.2.1 = if S t.2.1 then 1 else 0 := rfl
    have i2 : ind S t.2.2 = if S t.2.2 then 1 else 0 := rfl
    unfold fsum
    rw [rimN_cons, i1, i2]
    unfold rimB
    cases e1 : S t.2.1 <;> cases e2 : S t.2.2 <;> simp <;> omega
theorem cut_eq {φ : Int → Int} {S : Int → Bool} : ∀ {ts : List T3}, (∀ t ∈ ts, S t.2.1 = true → S t.2.2 = false → φ t.1 = 1) → (∀ t ∈ ts, S t.2.1 = false → S t.2.2 = true → φ t.1 = -1) → fsum φ (ind S) ts = rimN ts S
  | [], _, _ => by unfold fsum rimN; simp
  | t :: ts, h1, h2 => by
    have ih := cut_eq (S := S) (fun s hs => h1 s (List.mem_cons_of_mem _ hs)) (fun s hs => h2 s (List.mem_cons_of_mem _ hs))
    have a1 := h1 t List.mem_cons_self
    have a2 := h2 t List.mem_cons_self
    have i1 : ind S t.2.1 = if S t.2.1 then 1 else 0 := rfl
    have i2 : ind S t.2.2 = if S t.2.2 then 1 else 0 := rfl
    unfold fsum
    rw [rimN_cons, i1, i2]
    unfold rimB
    cases e1 : S t.2.1 <;> cases e2 : S t.2.2
    · simp; omega
    · have := a2 e1 e2; rw [this]; simp; omega
    · have := a1 e1 e2; rw [this]; simp; omega
    · simp; omega
/-- φ carries v from a to b -/
def Bal (φ : Int → Int) (ts : List T3) (a b v : Int) : Prop := ∀ P : Int → Int, fsum φ P ts = v * (P a - P b)
/-- c is how often a and b hang together, up to m -/
structure Hng (ts : List T3) (a b : Int) (m c : Nat) : Prop where
  le : c ≤ m
  rim : ∀ S : Int → Bool, S a ≠ S b → c ≤ rimN ts S
  side : c = m ∨ ∃ S : Int → Bool, S a = true ∧ S b = false ∧ rimN ts S = c
theorem rimN_not (ts : List T3) (S : Int → Bool) : rimN ts (fun p => !S p) = rimN ts S := by
  unfold rimN rimB
  congr 1
  apply List.filter_congr
  intro t _
  show ((!S t.2.1) != (!S t.2.2)) = (S t.2.1 != S t.2.2)
  cases S t.2.1 <;> cases S t.2.2 <;> rfl
theorem bal_rim {φ : Int → Int} {ts : List T3} {a b : Int} {v : Nat} (h : Bal φ ts a b v) (u : Unit1 φ ts) {S : Int → Bool} (hs : S a ≠ S b) : v ≤ rimN ts S := by
  cases e1 : S a with
  | true =>
    have e2 : S b = false := by cases e2 : S b with | true => rw [e1, e2] at hs; exact absurd rfl hs | false => rfl
    have h1 := cut_le (S := S) u.lo u.hi
    rw [h] at h1
    simp [ind, e1, e2] at h1
    omega
  | false =>
    have e2 : S b = true := by cases e2 : S b with | false => rw [e1, e2] at hs; exact absurd rfl hs | true => rfl
    have h1 := cut_le (S := fun p => !S p) u.lo u.hi
    rw [h, rimN_not] at h1
    simp [ind, e1, e2] at h1
    omega

/-! ### from where to where one can go -/
def goT (φ : Int → Int) (t : T3) (h : Int) : Option Int :=
  if t.2.1 = t.2.2 then none else if h = t.2.1 ∧ φ t.1 < 1 then some t.2.2 else if h = t.2.2 ∧ -1 < φ t.1 then some t.2.1 else none
theorem goT_end {φ : Int → Int} {t : T3} {h p : Int} (e : goT φ t h = some p) : (h = t.2.1 ∧ p = t.2.2 ∧ φ t.1 < 1 ∨ h = t.2.2 ∧ p = t.2.1 ∧ -1 < φ t.1) ∧ t.2.1 ≠ t.2.2 := by
  unfold goT at e
  by_cases c0 : t.2.1 = t.2.2
  · rw [if_pos c0] at e; cases e
  · rw [if_neg c0] at e
    by_cases c1 : h = t.2.1 ∧ φ t.1 < 1
    · rw [if_pos c1] at e
      cases e
      exact ⟨.inl ⟨c1.1, rfl, c1.2⟩, c0⟩
    · rw [if_neg c1] at e
      by_cases c2 : h = t.2.2 ∧ -1 < φ t.1
      · rw [if_pos c2] at e
        cases e
        exact ⟨.inr ⟨c2.1, rfl, c2.2⟩, c0⟩
      · rw [if_neg c2] at e; cases e
/-- what is come to: places, each but the first with the place ahead and the tie -/
abbrev CL := List (Int × Option (Int × T3))
def kys (cs : CL) : List Int := cs.map (·.1)
inductive Came (φ : Int → Int) (ts : List T3) (s : Int) : CL → Prop
  | one : Came φ ts s [(s, none)]
  | snoc {cs : CL} {h p : Int} {t : T3} : Came φ ts s cs → h ∈ kys cs → t ∈ ts → goT φ t h = some p → p ∉ kys cs → Came φ ts s (cs ++ [(p, some (h, t))])
theorem kys_snoc (cs : CL) (x : Int × Option (Int × T3)) : kys (cs ++ [x]) = kys cs ++ [x.1] := by unfold kys; rw [List.map_append]; rfl
theorem Came.nodup {φ : Int → Int} {ts : List T3} {s : Int} {cs : CL} (h : Came φ ts s cs) : (kys cs).Nodup := by
  induction h with
  | one => exact List.nodup_cons.mpr ⟨by simp, List.nodup_nil⟩
  | snoc _ _ _ _ np ih =>
    rw [kys_snoc, List.nodup_append]
    refine ⟨ih, List.nodup_cons.mpr ⟨by simp, List.nodup_nil⟩, fun x hx y hy => ?_⟩
    have hy := List.mem_singleton.mp hy
    exact fun e => np (show _ ∈ _ from by have : x = _ := e.trans hy; rw [this] at hx; exact hx)
theorem Came.first {φ : Int → Int} {ts : List T3} {s : Int} {cs : CL} (h : Came φ ts s cs) : s ∈ kys cs := by
  induction h with
  | one => exact List.mem_singleton.mpr rfl
  | snoc _ _ _ _ _ ih => rw [kys_snoc]; exact List.mem_append_left _ ih
theorem Came.inN {φ : Int → Int} {ts : List T3} {s n : Int} {cs : CL} (h : Came φ ts s cs) (hs : 0 ≤ s ∧ s < n) (ht : ∀ t ∈ ts, (0 ≤ t.2.1 ∧ t.2.1 < n) ∧ 0 ≤ t.2.2 ∧ t.2.2 < n) : ∀ p ∈ kys cs, 0 ≤ p ∧ p < n := by
  induction h with
  | one => intro p hp; rw [List.mem_singleton.mp hp]; exact hs
  | snoc _ _ hm hg _ ih =>
    intro p hp
    rw [kys_snoc] at hp
    rcases List.mem_append.mp hp with hp | hp
    · exact ih p hp
    · rw [List.mem_singleton.mp hp]
      rcases (goT_end hg).1 with ⟨_, e, _⟩ | ⟨_, e, _⟩
      · rw [e]; exact (ht _ hm).2
      · rw [e]; exact (ht _ hm).1
theorem nodup_sub : ∀ {l m : List Int}, l.Nodup → (∀ p ∈ l, p ∈ m) → l.length ≤ m.length
  | [], _, _, _ => Nat.zero_le _
  | x :: l, m, h, hs => by
    obtain ⟨h1, h2⟩ := List.nodup_cons.mp h
    have hx := hs x List.mem_cons_self
    have := nodup_sub (l := l) (m := m.erase x) h2 fun p hp => (List.mem_erase_of_ne (fun e : p = x => h1 (e ▸ hp))).mpr (hs p (List.mem_cons_of_mem _ hp))
    rw [List.length_erase_of_mem hx] at this
    have := List.length_pos_of_mem hx
    rw [List.length_cons]
    omega
theorem nodup_len {n : Int} {l : List Int} (h : l.Nodup) (hb : ∀ p ∈ l, 0 ≤ p ∧ p < n) : l.length ≤ n.toNat := by
  have := nodup_sub h fun p hp => mem_pl.mpr (hb p hp)
  rwa [pl_len] at this
/-- what can't be come to has a full rim -/
theorem closed_rim {φ : Int → Int} {ts : List T3} {a b : Int} {v : Nat} (h : Bal φ ts a b v) (u : Unit1 φ ts) {S : Int → Bool} (sa : S a = true) (sb : S b = false)
    (cl : ∀ t ∈ ts, ∀ p q, S p = true → goT φ t p = some q → S q = true) : rimN ts S = v := by
  have h1 : fsum φ (ind S) ts = rimN ts S := by
    refine cut_eq (fun t ht e1 e2 => ?_) fun t ht e1 e2 => ?_
    · have lo := u.lo t ht
      have hi := u.hi t ht
      by_cases c : φ t.1 < 1
      · have := cl t ht _ t.2.2 e1 (by
          unfold goT
          rw [if_neg (fun z => by rw [z] at e1; rw [e1] at e2; cases e2), if_pos ⟨rfl, c⟩])
        rw [this] at e2; cases e2
      · omega
    · have lo := u.lo t ht
      have hi := u.hi t ht
      have ne : ¬ t.2.1 = t.2.2 := fun z => by rw [z] at e1; rw [e1] at e2; cases e2
      by_cases c : -1 < φ t.1
      · have := cl t ht _ t.2.1 e2 (by
          unfold goT
          rw [if_neg ne, if_neg (fun z => ne z.1.symm), if_pos ⟨rfl, c⟩])
        rw [this] at e1; cases e1
      · omega
  rw [h] at h1
  simp [ind, sa, sb] at h1
  omega

/-! ### a step back along what was come to -/
def psh (φ : Int → Int) (t : T3) (h : Int) : Int → Int := if h = t.2.1 then upd φ t.1 (φ t.1 + 1) else upd φ t.1 (φ t.1 - 1)
theorem psh_out {φ : Int → Int} {t : T3} {h x : Int} (ne : x ≠ t.1) : psh φ t h x = φ x := by
  unfold psh
  split <;> exact upd_ne ne
theorem psh_sum {φ : Int → Int} {ts : List T3} {t : T3} {h p : Int} (hd : Dst ts) (ht : t ∈ ts) (ψ : Int → Int) (e : goT φ t h = some p) (P : Int → Int) : fsum (psh ψ t h) P ts = fsum ψ P ts + (P h - P p) := by
  obtain ⟨g, ne⟩ := goT_end e
  unfold psh
  rcases g with ⟨e1, e2, _⟩ | ⟨e1, e2, _⟩
  · rw [if_pos e1, fsum_upd hd ht, e1, e2, show ψ t.1 + 1 - ψ t.1 = 1 by omega]
    omega
  · rw [if_neg (fun z => ne (z.symm.trans e1)), fsum_upd hd ht, e1, e2, show ψ t.1 - 1 - ψ t.1 = -1 by omega]
    omega
theorem psh_unit {φ ψ : Int → Int} {ts : List T3} {t : T3} {h p : Int} (u : Unit1 ψ ts) (hd : Dst ts) (ht : t ∈ ts) (e : goT φ t h = some p) (eq : ψ t.1 = φ t.1) : Unit1 (psh ψ t h) ts := by
  obtain ⟨g, ne⟩ := goT_end e
  have lo := u.lo t ht
  have hi := u.hi t ht
  have val : -1 ≤ psh ψ t h t.1 ∧ psh ψ t h t.1 ≤ 1 := by
    unfold psh
    rcases g with ⟨e1, e2, e3⟩ | ⟨e1, e2, e3⟩
    · rw [if_pos e1, upd_self]; omega
    · rw [if_neg (fun z => ne (z.symm.trans e1)), upd_self]; omega
  have same : ∀ s ∈ ts, s.1 = t.1 → s = t := fun s hs es => dst_inj hd hs ht es
  refine ⟨fun s hs => ?_, fun s hs => ?_, fun s hs hl => ?_⟩
  · by_cases c : s.1 = t.1
    · rw [c]; exact val.1
    · rw [psh_out c]; exact u.lo s hs
  · by_cases c : s.1 = t.1
    · rw [c]; exact val.2
    · rw [psh_out c]; exact u.hi s hs
  · by_cases c : s.1 = t.1
    · have := same s hs c
      subst this
      exact absurd hl ne
    · rw [psh_out c]; exact u.loop s hs hl
/-- along what flows out of a place -/
theorem out_tie {φ : Int → Int} {ts : List T3} {h : Int} (u : Unit1 φ ts) (pos : 0 < fsum φ (fun p => if p = h then 1 else 0) ts) : ∃ t ∈ ts, (t.2.1 = h ∧ φ t.1 = 1) ∨ (t.2.2 = h ∧ φ t.1 = -1) := by
  induction ts with
  | nil => unfold fsum at pos; omega
  | cons t ts ih =>
    have lo := u.lo t List.mem_cons_self
    have hi := u.hi t List.mem_cons_self
    by_cases c : (t.2.1 = h ∧ φ t.1 = 1) ∨ (t.2.2 = h ∧ φ t.1 = -1)
    · exact ⟨t, List.mem_cons_self, c⟩
    · obtain ⟨s, hs, q⟩ := ih ⟨fun s hs => u.lo s (List.mem_cons_of_mem _ hs), fun s hs => u.hi s (List.mem_cons_of_mem _ hs), fun s hs => u.loop s (List.mem_cons_of_mem _ hs)⟩ (by
        unfold fsum at pos
        have : φ t.1 * ((if t.2.1 = h then 1 else 0) - (if t.2.2 = h then 1 else 0)) ≤ 0 := by
          by_cases c1 : t.2.1 = h <;> by_cases c2 : t.2.2 = h <;> simp [c1, c2] at c ⊢ <;> omega
        omega)
      exact ⟨s, List.mem_cons_of_mem _ hs, q⟩
/-- how many ties something flows along -/
def live (φ : Int → Int) (ts : List T3) : Nat := (ts.filter fun t => decide (φ t.1 ≠ 0)).length
theorem live_le (φ : Int → Int) (ts : List T3) : live φ ts ≤ ts.length := List.length_filter_le _ _
theorem live_zero {φ : Int → Int} {t : T3} : ∀ {ts : List T3}, Dst ts → t ∈ ts → φ t.1 ≠ 0 → live (upd φ t.1 0) ts < live φ ts
  | [], _, h, _ => by cases h
  | s :: ts, hd, h, hz => by
    obtain ⟨h1, h2⟩ := List.pairwise_cons.mp hd
    unfold live
    rw [List.filter_cons, List.filter_cons]
    by_cases c : s.1 = t.1
    · have e : s = t := by
        rcases List.mem_cons.mp h with e | h'
        · exact e.symm
        · exact absurd c (h1 t h')
      subst e
      rw [upd_self, if_neg (by simp), if_pos (by simpa using hz), List.length_cons]
      have : ts.filter (fun u => decide (upd φ s.1 0 u.1 ≠ 0)) = ts.filter fun u => decide (φ u.1 ≠ 0) := by
        apply List.filter_congr
        intro u hu
        rw [upd_ne (h1 u hu).symm]
      rw [this]
      omega
    · have h' : t ∈ ts := by
        rcases List.mem_cons.mp h with e | h'
        · exact absurd (by rw [e]) c
        · exact h'
      have ih := live_zero h2 h' hz
      unfold live at ih
      rw [upd_ne c]
      split
      · rw [List.length_cons, List.length_cons]; omega
      · exact ih
end Flow
end T_FlowM

section T_FlowP
set_option linter.all false
set_option maxRecDepth 100000
set_option maxHeartbeats 4000000
/-! FlowP: what the defs of flows compute. -/
namespace FlowL
open PySem Sim FamA Flow

def encF (φ : Int → Int) (ts : List T3) : List (Dt × Dt) := ts.map fun t => (.int t.1, .int (φ t.1))
def encO : Option (Int × T3) → Dt
  | none => .none
  | some (h, t) => .tuple [.int h, enc3 t]
def encC (cs : CL) : List (Dt × Dt) := cs.map fun c => (.int c.1, encO c.2)
def optI : Option Int → Dt
  | none => .none
  | some p => .int p
theorem isK_i (m x : Int) : isK (.inl m) (.int x) = decide (x = m) := rfl
theorem encF_len (φ : Int → Int) (ts : List T3) : (encF φ ts).length = ts.length := List.length_map ..
theorem encF_get {φ : Int → Int} {m : Int} : ∀ {ts : List T3}, (∃ s ∈ ts, s.1 = m) → dGet (encF φ ts) (.inl m) = some (.int (φ m))
  | [], h => by obtain ⟨_, h, _⟩ := h; cases h
  | t :: ts, h => by
    unfold dGet encF
    rw [List.map_cons]
    by_cases c : t.1 = m
    · rw [List.find?_cons_of_pos (by rw [isK_i]; simpa using c)]
      rw [← c]
      rfl
    · rw [List.find?_cons_of_neg (by rw [isK_i]; simpa using c)]
      refine encF_get ?_
      obtain ⟨s, hs, e⟩ := h
      rcases List.mem_cons.mp hs with z | hs
      · exact absurd (z ▸ e) c
      · exact ⟨s, hs, e⟩
theorem encF_put {φ : Int → Int} {ts : List T3} {m z : Int} (h : ∃ s ∈ ts, s.1 = m) : dPut (encF φ ts) (.inl m) (.int z) = encF (upd φ m z) ts := by
  unfold dPut
  rw [if_pos]
  · unfold encF
    rw [List.map_map]
    apply List.map_congr_left
    intro t _
    show (if isK (.inl m) (.int t.1) = true then ((.int t.1 : Dt), (.int z : Dt)) else (.int t.1, .int (φ t.1))) = (.int t.1, .int (upd φ m z t.1))
    rw [isK_i]
    by_cases c : t.1 = m
    · rw [if_pos (by simpa using c), c, upd_self]
    · rw [if_neg (by simpa using c), upd_ne c]
  · obtain ⟨s, hs, e⟩ := h
    unfold encF
    rw [List.any_map]
    exact List.any_eq_true.mpr ⟨s, hs, by simpa [isK_i] using e⟩
theorem encC_none {p : Int} : ∀ {cs : CL}, p ∉ kys cs → dGet (encC cs) (.inl p) = none
  | [], _ => rfl
  | c :: cs, h => by
    unfold dGet encC
    rw [List.map_cons]
    have ne : c.1 ≠ p := fun e => h (by unfold kys; rw [List.map_cons, e]; exact List.mem_cons_self)
    rw [List.find?_cons_of_neg (by rw [isK_i]; simpa using ne)]
    exact encC_none fun z => h (List.mem_cons_of_mem _ z)
theorem encC_get {p : Int} {o : Option (Int × T3)} : ∀ {cs : CL}, (kys cs).Nodup → (p, o) ∈ cs → dGet (encC cs) (.inl p) = some (encO o)
  | [], _, h => by cases h
  | c :: cs, hn, h => by
    obtain ⟨h1, h2⟩ := List.nodup_cons.mp (show (c.1 :: kys cs).Nodup from hn)
    unfold dGet encC
    rw [List.map_cons]
    rcases List.mem_cons.mp h with e | h
    · rw [← e, List.find?_cons_of_pos (by rw [isK_i]; simp)]
      rfl
    · have ne : c.1 ≠ p := fun e => h1 (by rw [e]; exact List.mem_map.mpr ⟨_, h, rfl⟩)
      rw [List.find?_cons_of_neg (by rw [isK_i]; simpa using ne)]
      exact encC_get h2 h
theorem encC_isSome {p : Int} : ∀ {cs : CL}, (dGet (encC cs) (.inl p)).isSome = decide (p ∈ kys cs)
  | [] => by simp [encC, dGet, kys]
  | c :: cs => by
    unfold dGet encC
    rw [List.map_cons]
    by_cases e : c.1 = p
    · rw [List.find?_cons_of_pos (by rw [isK_i]; simpa using e)]
      have : p ∈ kys (c :: cs) := by unfold kys; rw [List.map_cons, e]; exact List.mem_cons_self
      simp [this]
    · rw [List.find?_cons_of_neg (by rw [isK_i]; simpa using e)]
      have ih := encC_isSome (p := p) (cs := cs)
      unfold dGet encC at ih
      rw [ih]
      have : p ∈ kys (c :: cs) ↔ p ∈ kys cs := by
        unfold kys
        rw [List.map_cons, List.mem_cons]
        exact ⟨fun h => h.resolve_left fun z => e z.symm, .inr⟩
      simp [this]
theorem encC_put {p : Int} {o : Option (Int × T3)} {cs : CL} (h : p ∉ kys cs) : dPut (encC cs) (.inl p) (encO o) = encC (cs ++ [(p, o)]) := by
  unfold dPut
  rw [if_neg]
  · unfold encC
    rw [List.map_append]
    rfl
  · intro z
    unfold encC at z
    rw [List.any_map] at z
    obtain ⟨c, hc, e⟩ := List.any_eq_true.mp z
    have e : c.1 = p := by simpa [isK_i] using e
    exact h (by rw [← e]; exact List.mem_map.mpr ⟨_, hc, rfl⟩)
theorem ix3_0 (t : T3) : hIx (enc3 t) (.int 0) = .ok (.int t.1) := rfl
theorem ix3_1 (t : T3) : hIx (enc3 t) (.int 1) = .ok (.int t.2.1) := rfl
theorem ix3_2 (t : T3) : hIx (enc3 t) (.int 2) = .ok (.int t.2.2) := rfl
theorem hU_neg (i : Int) : hU (fun i => -i) (.int i) = .ok (.int (-i)) := rfl
theorem keyOf_i (i : Int) : keyOf (.int i) = some (.inl i) := rfl
theorem dix_F {φ : Int → Int} {ts : List T3} {m : Int} (h : ∃ s ∈ ts, s.1 = m) : hDIx (.dict (encF φ ts)) (.int m) = .ok (.int (φ m)) := dix_ok (keyOf_i m) (encF_get h)

/-! ### can_go -/
theorem can_go_ok {φ : Int → Int} {ts : List T3} {t : T3} {h : Int} (ht : ∃ s ∈ ts, s.1 = t.1) : f_can_go [.dict (encF φ ts), enc3 t, .int h] = .ok (optI (goT φ t h)) := by
  have hg := dix_F (φ := φ) ht
  refine fnN_rt ?_
  show g_can_go [.dict (encF φ ts), enc3 t, .int h, .none, .none, .none] = _
  unfold g_can_go
  refine seq_step (asg_ok (ρ' := [.dict (encF φ ts), enc3 t, .int h, .int t.1, .int t.2.1, .int t.2.2]) rfl rfl) ?_
  unfold goT
  by_cases c0 : t.2.1 = t.2.2
  · rw [if_pos c0]
    refine seq_rt ((if_t (by simp only [bnd_ok, gVar_def, gC_def, gOp_def, gUn_def, gNil_def, gCons_def, gIf_def, gTest_def, gNot_def, gAnd_def, gOr_def, gAndV_def, gOrV_def, gNotV_def, gCB_def, asB_b, hAdd_i, hSub_i, hLt_i, hLe_i, hGt_i, hGe_i, hMul_r, hMul_l, hMod_i, hDiv_s, hBand_i, hShr_i, hPow_10_18, hPow_10_27, hPow_10_28, hPow_10_29, hPow_10_30, hEq_i, hNe_i, hLen_l, hLen_t, hMin2_i, hMax2_i, hMin3_i, hInt1_b, hInt1_i, hBits_i, hListOf_l, hListOf_t, hTupOf_l, hTupOf_t, gSeqS_def, gSet_def, gRet_def, gIfS_def, gNext_def, gTup_def, gLst_def, List.getElem?_cons_zero, List.getElem?_cons_succ, List.set_cons_zero, List.set_cons_succ, List.length_cons, List.length_nil, Nat.zero_add, Nat.reduceAdd, Nat.reduceLeDiff, Nat.reduceSub, Nat.reduceMul, if_true, if_false, Bool.false_eq_true, List.replicate_succ, List.replicate_zero, List.cons_append, List.nil_append, tgN, tgT, tgCons, tgNil, Int.reducePow, Int.reduceAdd, Int.reduceSub, Int.reduceMul, decide_true, decide_false, Bool.not_true, Bool.not_false, gChain_def, hIsa_int, hIsa_intb, hIsa_list, hIsa_tuple, gDrop_def, c0, beq_self_eq_true])).trans (ret_ok rfl))
  · rw [if_neg c0]
    refine seq_step ((if_f (by simp only [bnd_ok, gVar_def, gC_def, gOp_def, gUn_def, gNil_def, gCons_def, gIf_def, gTest_def, gNot_def, gAnd_def, gOr_def, gAndV_def, gOrV_def, gNotV_def, gCB_def, asB_b, hAdd_i, hSub_i, hLt_i, hLe_i, hGt_i, hGe_i, hMul_r, hMul_l, hMod_i, hDiv_s, hBand_i, hShr_i, hPow_10_18, hPow_10_27, hPow_10_28, hPow_10_29, hPow_10_30, hEq_i, hNe_i, hLen_l, hLen_t, hMin2_i, hMax2_i, hMin3_i, hInt1_b, hInt1_i, hBits_i, hListOf_l, hListOf_t, hTupOf_l, hTupOf_t, gSeqS_def, gSet_def, gRet_def, gIfS_def, gNext_def, gTup_def, gLst_def, List.getElem?_cons_zero, List.getElem?_cons_succ, List.set_cons_zero, List.set_cons_succ, List.length_cons, List.length_nil, Nat.zero_add, Nat.reduceAdd, Nat.reduceLeDiff, Nat.reduceSub, Nat.reduceMul, if_true, if_false, Bool.false_eq_true, List.replicate_succ, List.replicate_zero, List.cons_append, List.nil_append, tgN, tgT, tgCons, tgNil, Int.reducePow, Int.reduceAdd, Int.reduceSub, Int.reduceMul, decide_true, decide_false, Bool.not_true, Bool.not_false, gChain_def, hIsa_int, hIsa_intb, hIsa_list, hIsa_tuple, gDrop_def]; simpa using c0)).trans rfl) ?_
    by_cases c1 : h = t.2.1 ∧ φ t.1 < 1
    · rw [if_pos c1]
      refine seq_rt ((if_t (by simp only [bnd_ok, gVar_def, gC_def, gOp_def, gUn_def, gNil_def, gCons_def, gIf_def, gTest_def, gNot_def, gAnd_def, gOr_def, gAndV_def, gOrV_def, gNotV_def, gCB_def, asB_b, hAdd_i, hSub_i, hLt_i, hLe_i, hGt_i, hGe_i, hMul_r, hMul_l, hMod_i, hDiv_s, hBand_i, hShr_i, hPow_10_18, hPow_10_27, hPow_10_28, hPow_10_29, hPow_10_30, hEq_i, hNe_i, hLen_l, hLen_t, hMin2_i, hMax2_i, hMin3_i, hInt1_b, hInt1_i, hBits_i, hListOf_l, hListOf_t, hTupOf_l, hTupOf_t, gSeqS_def, gSet_def, gRet_def, gIfS_def, gNext_def, gTup_def, gLst_def, List.getElem?_cons_zero, List.getElem?_cons_succ, List.set_cons_zero, List.set_cons_succ, List.length_cons, List.length_nil, Nat.zero_add, Nat.reduceAdd, Nat.reduceLeDiff, Nat.reduceSub, Nat.reduceMul, if_true, if_false, Bool.false_eq_true, List.replicate_succ, List.replicate_zero, List.cons_append, List.nil_append, tgN, tgT, tgCons, tgNil, Int.reducePow, Int.reduceAdd, Int.reduceSub, Int.reduceMul, decide_true, decide_false, Bool.not_true, Bool.not_false, gChain_def, hIsa_int, hIsa_intb, hIsa_list, hIsa_tuple, gDrop_def, hg]; simp [c1])).trans (ret_ok rfl))
    · rw [if_neg c1]
      refine seq_step ((if_f (by
        simp only [bnd_ok, gVar_def, gC_def, gOp_def, gUn_def, gNil_def, gCons_def, gIf_def, gTest_def, gNot_def, gAnd_def, gOr_def, gAndV_def, gOrV_def, gNotV_def, gCB_def, asB_b, hAdd_i, hSub_i, hLt_i, hLe_i, hGt_i, hGe_i, hMul_r, hMul_l, hMod_i, hDiv_s, hBand_i, hShr_i, hPow_10_18, hPow_10_27, hPow_10_28, hPow_10_29, hPow_10_30, hEq_i, hNe_i, hLen_l, hLen_t, hMin2_i, hMax2_i, hMin3_i, hInt1_b, hInt1_i, hBits_i, hListOf_l, hListOf_t, hTupOf_l, hTupOf_t, gSeqS_def, gSet_def, gRet_def, gIfS_def, gNext_def, gTup_def, gLst_def, List.getElem?_cons_zero, List.getElem?_cons_succ, List.set_cons_zero, List.set_cons_succ, List.length_cons, List.length_nil, Nat.zero_add, Nat.reduceAdd, Nat.reduceLeDiff, Nat.reduceSub, Nat.reduceMul, if_true, if_false, Bool.false_eq_true, List.replicate_succ, List.replicate_zero, List.cons_append, List.nil_append, tgN, tgT, tgCons, tgNil, Int.reducePow, Int.reduceAdd, Int.reduceSub, Int.reduceMul, decide_true, decide_false, Bool.not_true, Bool.not_false, gChain_def, hIsa_int, hIsa_intb, hIsa_list, hIsa_tuple, gDrop_def, hg]
        by_cases e : h = t.2.1
        · have : ¬ φ t.1 < 1 := fun z => c1 ⟨e, z⟩
          simp [e, this]
        · simp [e])).trans rfl) ?_
      by_cases c2 : h = t.2.2 ∧ -1 < φ t.1
      · rw [if_pos c2]
        refine seq_rt ((if_t (by simp only [bnd_ok, gVar_def, gC_def, gOp_def, gUn_def, gNil_def, gCons_def, gIf_def, gTest_def, gNot_def, gAnd_def, gOr_def, gAndV_def, gOrV_def, gNotV_def, gCB_def, asB_b, hAdd_i, hSub_i, hLt_i, hLe_i, hGt_i, hGe_i, hMul_r, hMul_l, hMod_i, hDiv_s, hBand_i, hShr_i, hPow_10_18, hPow_10_27, hPow_10_28, hPow_10_29, hPow_10_30, hEq_i, hNe_i, hLen_l, hLen_t, hMin2_i, hMax2_i, hMin3_i, hInt1_b, hInt1_i, hBits_i, hListOf_l, hListOf_t, hTupOf_l, hTupOf_t, gSeqS_def, gSet_def, gRet_def, gIfS_def, gNext_def, gTup_def, gLst_def, List.getElem?_cons_zero, List.getElem?_cons_succ, List.set_cons_zero, List.set_cons_succ, List.length_cons, List.length_nil, Nat.zero_add, Nat.reduceAdd, Nat.reduceLeDiff, Nat.reduceSub, Nat.reduceMul, if_true, if_false, Bool.false_eq_true, List.replicate_succ, List.replicate_zero, List.cons_append, List.nil_append, tgN, tgT, tgCons, tgNil, Int.reducePow, Int.reduceAdd, Int.reduceSub, Int.reduceMul, decide_true, decide_false, Bool.not_true, Bool.not_false, gChain_def, hIsa_int, hIsa_intb, hIsa_list, hIsa_tuple, gDrop_def, hg, hU_neg]; simp [c2])).trans (ret_ok rfl))
      · rw [if_neg c2]
        refine seq_step ((if_f (by
          simp only [bnd_ok, gVar_def, gC_def, gOp_def, gUn_def, gNil_def, gCons_def, gIf_def, gTest_def, gNot_def, gAnd_def, gOr_def, gAndV_def, gOrV_def, gNotV_def, gCB_def, asB_b, hAdd_i, hSub_i, hLt_i, hLe_i, hGt_i, hGe_i, hMul_r, hMul_l, hMod_i, hDiv_s, hBand_i, hShr_i, hPow_10_18, hPow_10_27, hPow_10_28, hPow_10_29, hPow_10_30, hEq_i, hNe_i, hLen_l, hLen_t, hMin2_i, hMax2_i, hMin3_i, hInt1_b, hInt1_i, hBits_i, hListOf_l, hListOf_t, hTupOf_l, hTupOf_t, gSeqS_def, gSet_def, gRet_def, gIfS_def, gNext_def, gTup_def, gLst_def, List.getElem?_cons_zero, List.getElem?_cons_succ, List.set_cons_zero, List.set_cons_succ, List.length_cons, List.length_nil, Nat.zero_add, Nat.reduceAdd, Nat.reduceLeDiff, Nat.reduceSub, Nat.reduceMul, if_true, if_false, Bool.false_eq_true, List.replicate_succ, List.replicate_zero, List.cons_append, List.nil_append, tgN, tgT, tgCons, tgNil, Int.reducePow, Int.reduceAdd, Int.reduceSub, Int.reduceMul, decide_true, decide_false, Bool.not_true, Bool.not_false, gChain_def, hIsa_int, hIsa_intb, hIsa_list, hIsa_tuple, gDrop_def, hg, hU_neg]
          by_cases e : h = t.2.2
          · have : ¬ -1 < φ t.1 := fun z => c2 ⟨e, z⟩
            simp [e]; omega
          · simp [e])).trans rfl) ?_
        exact ret_ok rfl

/-! ### spread -/
theorem hIsNot_none : hIsNot .none .none = .ok (.bool false) := rfl
theorem hIsNot_int (i : Int) : hIsNot (.int i) .none = .ok (.bool true) := rfl
theorem dIn_C (neg : Bool) {ρ : List Dt} {i j : Nat} {cs : CL} {p : Int} (h1 : ρ[i]? = some (.dict (encC cs))) (h2 : ρ[j]? = some (.int p)) : gDIn neg i (gVar j) ρ = .ok (.bool (if neg then !decide (p ∈ kys cs) else decide (p ∈ kys cs))) := by
  unfold gDIn gVar dAt
  rw [h2, h1]
  simp only [bnd_ok, keyOf_i, encC_isSome]
def spS (F ts : Dt) (a b : Int) (cs : CL) (at' : Int) (d7 d8 d9 : Dt) : List Dt := [F, ts, .int a, .int b, .dict (encC cs), .list ((kys cs).map .int), .int at', d7, d8, d9]
theorem spread_turn {φ : Int → Int} {ts : List T3} {a b at' h : Int} {cs : CL} {t : T3} {d9 : Dt} (ht : t ∈ ts) (hc : Came φ ts a cs) (hh : h ∈ kys cs) (hl : cs.length ≤ 1000) :
    ∃ cs' d9', g_spread_L1 (spS (.dict (encF φ ts)) (.list (ts.map enc3)) a b cs at' (.int h) (enc3 t) d9) = .ok (.nx (spS (.dict (encF φ ts)) (.list (ts.map enc3)) a b cs' at' (.int h) (enc3 t) d9')) ∧ Came φ ts a cs' ∧ (∃ ex, cs' = cs ++ ex ∧ ex.length ≤ 1) ∧ ∀ q, goT φ t h = some q → q ∈ kys cs' := by
  have e1 := can_go_ok (φ := φ) (ts := ts) (t := t) (h := h) ⟨t, ht, rfl⟩
  unfold g_spread_L1
  cases eg : goT φ t h with
  | none =>
    rw [eg] at e1
    refine ⟨cs, .none, ?_, hc, ⟨[], by simp⟩, fun q hq => by cases hq⟩
    refine seq_step (set_ok (callN_ok (ds := [.dict (encF φ ts), enc3 t, .int h]) rfl rfl e1)) ?_
    exact (if_f (by rfl)).trans rfl
  | some p =>
    rw [eg] at e1
    by_cases c : p ∈ kys cs
    · refine ⟨cs, .int p, ?_, hc, ⟨[], by simp⟩, fun q hq => by cases hq; exact c⟩
      refine seq_step (set_ok (callN_ok (ds := [.dict (encF φ ts), enc3 t, .int h]) rfl rfl e1)) ?_
      refine (if_f ?_).trans rfl
      rw [gAnd_def, gTest_def, gTest_def, dIn_C (cs := cs) (p := p) true rfl rfl]
      simp [c, gOp_def, gVar_def, gC_def, spS, optI, hIsNot_int, asB_b]
    · refine ⟨cs ++ [(p, some (h, t))], .int p, ?_, hc.snoc hh ht eg c, ⟨_, rfl, by simp⟩, fun q hq => by cases hq; rw [kys_snoc]; exact List.mem_append_right _ (List.mem_singleton.mpr rfl)⟩
      refine seq_step (set_ok (callN_ok (ds := [.dict (encF φ ts), enc3 t, .int h]) rfl rfl e1)) ?_
      refine (if_t ?_).trans ?_
      · rw [gAnd_def, gTest_def, gTest_def, dIn_C (cs := cs) (p := p) true rfl rfl]
        simp [c, gOp_def, gVar_def, gC_def, spS, optI, hIsNot_int, asB_b]
      · have hput : gDPut 4 (gPur (gTup (gCons (gVar 7) (gCons (gVar 8) (gNil))))) (gVar 9) (spS (.dict (encF φ ts)) (.list (ts.map enc3)) a b cs at' (.int h) (enc3 t) (.int p)) = .ok (.nx [.dict (encF φ ts), .list (ts.map enc3), .int a, .int b, .dict (encC (cs ++ [(p, some (h, t))])), .list ((kys cs).map .int), .int at', .int h, enc3 t, .int p]) := by
          rw [← encC_put c]
          show (if (encC cs).length < 100000 then O.ok (Fl.nx _) else O.bad) = _
          rw [if_pos (by unfold encC; rw [List.length_map]; omega)]
          rfl
        refine seq_step hput ?_
        rw [gApp_l (ds := (kys cs).map .int) (d := .int p) rfl rfl (by unfold kys; rw [List.length_map, List.length_map]; omega)]
        unfold spS
        rw [kys_snoc, List.map_append]
        rfl
theorem spread_for {φ : Int → Int} {ts : List T3} {a b at' h n : Int} {cs : CL} {d8 d9 : Dt} (hc : Came φ ts a cs) (hh : h ∈ kys cs) (ha : 0 ≤ a ∧ a < n) (hn : n ≤ 100) (hr : ∀ t ∈ ts, (0 ≤ t.2.1 ∧ t.2.1 < n) ∧ 0 ≤ t.2.2 ∧ t.2.2 < n) :
    ∃ cs' d8' d9', forE (tgN 8) g_spread_L1 (ts.map enc3) (spS (.dict (encF φ ts)) (.list (ts.map enc3)) a b cs at' (.int h) d8 d9) = .ok (.nx (spS (.dict (encF φ ts)) (.list (ts.map enc3)) a b cs' at' (.int h) d8' d9')) ∧ Came φ ts a cs' ∧ (∃ ex, cs' = cs ++ ex) ∧ ∀ t ∈ ts, ∀ q, goT φ t h = some q → q ∈ kys cs' := by
  obtain ⟨ρ', h1, cs', d8', d9', rfl, h2, h3, h4⟩ := forE_ix enc3 (h := tgN 8) (b := g_spread_L1) ts
    (fun i ρ => ∃ cs' d8' d9', ρ = spS (.dict (encF φ ts)) (.list (ts.map enc3)) a b cs' at' (.int h) d8' d9' ∧ Came φ ts a cs' ∧ (∃ ex, cs' = cs ++ ex) ∧ ∀ j (hj : j < ts.length), j < i → ∀ q, goT φ ts[j] h = some q → q ∈ kys cs')
    (ρ := spS (.dict (encF φ ts)) (.list (ts.map enc3)) a b cs at' (.int h) d8 d9) ⟨cs, d8, d9, rfl, hc, ⟨[], by simp⟩, fun j _ hj => by omega⟩ (by
      rintro i ρ hi ⟨cs', d8', d9', rfl, g1, ⟨ex, g2⟩, g3⟩
      have hl : cs'.length ≤ 1000 := by
        have := nodup_len g1.nodup (g1.inN ha hr)
        unfold kys at this
        rw [List.length_map] at this
        omega
      have hh' : h ∈ kys cs' := by rw [g2]; unfold kys; rw [List.map_append]; exact List.mem_append_left _ hh
      obtain ⟨cs2, d92, k1, k2, ⟨ex2, k3, _⟩, k4⟩ := spread_turn (b := b) (at' := at') (d9 := d9') (List.getElem_mem hi) g1 hh' hl
      refine ⟨_, _, rfl, .inl k1, cs2, _, d92, rfl, k2, ⟨ex ++ ex2, by rw [k3, g2, List.append_assoc]⟩, fun j hj hji q hq => ?_⟩
      by_cases z : j = i
      · subst z; exact k4 q hq
      · have := g3 j hj (by omega) q hq
        rw [k3]; unfold kys; rw [List.map_append]; exact List.mem_append_left _ this)
  refine ⟨cs', d8', d9', h1, h2, h3, fun t ht q hq => ?_⟩
  obtain ⟨j, hj, e⟩ := List.getElem_of_mem ht
  exact h4 j hj hj q (by rw [e]; exact hq)
theorem spread_while {φ : Int → Int} {ts : List T3} {a b n : Int} (ha : 0 ≤ a ∧ a < n) (hn : n ≤ 100) (hr : ∀ t ∈ ts, (0 ≤ t.2.1 ∧ t.2.1 < n) ∧ 0 ≤ t.2.2 ∧ t.2.2 < n) :
    ∀ (fu : Nat) (k : Nat) (cs : CL) (d7 d8 d9 : Dt), n.toNat < fu + k → k ≤ (kys cs).length → Came φ ts a cs → (∀ j (hj : j < (kys cs).length), j < k → ∀ t ∈ ts, ∀ q, goT φ t (kys cs)[j] = some q → q ∈ kys cs) →
    ∃ cs' k' d7' d8' d9', gWhile g_spread_T2 g_spread_L2 fu (spS (.dict (encF φ ts)) (.list (ts.map enc3)) a b cs k d7 d8 d9) = .ok (.nx (spS (.dict (encF φ ts)) (.list (ts.map enc3)) a b cs' k' d7' d8' d9')) ∧ Came φ ts a cs' ∧ (b ∈ kys cs' ∨ ∀ p ∈ kys cs', ∀ t ∈ ts, ∀ q, goT φ t p = some q → q ∈ kys cs')
  | 0, k, cs, d7, d8, d9, hf, hk, hc, hq => by
    have := nodup_len hc.nodup (hc.inN ha hr)
    omega
  | fu + 1, k, cs, d7, d8, d9, hf, hk, hc, hq => by
    have hT : g_spread_T2 (spS (.dict (encF φ ts)) (.list (ts.map enc3)) a b cs k d7 d8 d9) = .ok (decide (k < (kys cs).length) && !decide (b ∈ kys cs)) := by
      unfold g_spread_T2
      rw [gAnd_def, gTest_def, gTest_def, dIn_C (cs := cs) (p := b) true rfl rfl]
      have : gOp hLt (gVar 6) (gCB hLen (gCons (gVar 5) gNil)) (spS (.dict (encF φ ts)) (.list (ts.map enc3)) a b cs k d7 d8 d9) = .ok (.bool (decide (k < (kys cs).length))) := by
        simp only [bnd_ok, gVar_def, gC_def, gOp_def, gUn_def, gNil_def, gCons_def, gIf_def, gTest_def, gNot_def, gAnd_def, gOr_def, gAndV_def, gOrV_def, gNotV_def, gCB_def, asB_b, hAdd_i, hSub_i, hLt_i, hLe_i, hGt_i, hGe_i, hMul_r, hMul_l, hMod_i, hDiv_s, hBand_i, hShr_i, hPow_10_18, hPow_10_27, hPow_10_28, hPow_10_29, hPow_10_30, hEq_i, hNe_i, hLen_l, hLen_t, hMin2_i, hMax2_i, hMin3_i, hInt1_b, hInt1_i, hBits_i, hListOf_l, hListOf_t, hTupOf_l, hTupOf_t, gSeqS_def, gSet_def, gRet_def, gIfS_def, gNext_def, gTup_def, gLst_def, List.getElem?_cons_zero, List.getElem?_cons_succ, List.set_cons_zero, List.set_cons_succ, List.length_cons, List.length_nil, Nat.zero_add, Nat.reduceAdd, Nat.reduceLeDiff, Nat.reduceSub, Nat.reduceMul, if_true, if_false, Bool.false_eq_true, List.replicate_succ, List.replicate_zero, List.cons_append, List.nil_append, tgN, tgT, tgCons, tgNil, Int.reducePow, Int.reduceAdd, Int.reduceSub, Int.reduceMul, decide_true, decide_false, Bool.not_true, Bool.not_false, gChain_def, hIsa_int, hIsa_intb, hIsa_list, hIsa_tuple, gDrop_def, spS, List.length_map]
        congr 2
        simp
      rw [this]
      by_cases c : k < (kys cs).length <;> simp [c, asB_b]
    by_cases c : k < (kys cs).length ∧ b ∉ kys cs
    · have h0 : g_spread_T2 (spS (.dict (encF φ ts)) (.list (ts.map enc3)) a b cs k d7 d8 d9) = .ok true := by rw [hT]; simp [c]
      obtain ⟨cs', d8', d9', k1, k2, ⟨ex, k3⟩, k4⟩ := spread_for (φ := φ) (b := b) (at' := k) (d8 := d8) (d9 := d9) hc (List.getElem_mem c.1) ha hn hr
      have h1 : g_spread_L2 (spS (.dict (encF φ ts)) (.list (ts.map enc3)) a b cs k d7 d8 d9) = .ok (.nx (spS (.dict (encF φ ts)) (.list (ts.map enc3)) a b cs' ((k + 1 : Nat) : Int) (.int (kys cs)[k]) d8' d9')) := by
        unfold g_spread_L2
        refine seq_step (set_ok (d := .int (kys cs)[k]) ?_) ?_
        · have := hIx_ints (xs := kys cs) (i := (k : Int)) (by omega) (by omega)
          simp only [Int.toNat_natCast] at this
          simp only [bnd_ok, gVar_def, gC_def, gOp_def, gUn_def, gNil_def, gCons_def, gIf_def, gTest_def, gNot_def, gAnd_def, gOr_def, gAndV_def, gOrV_def, gNotV_def, gCB_def, asB_b, hAdd_i, hSub_i, hLt_i, hLe_i, hGt_i, hGe_i, hMul_r, hMul_l, hMod_i, hDiv_s, hBand_i, hShr_i, hPow_10_18, hPow_10_27, hPow_10_28, hPow_10_29, hPow_10_30, hEq_i, hNe_i, hLen_l, hLen_t, hMin2_i, hMax2_i, hMin3_i, hInt1_b, hInt1_i, hBits_i, hListOf_l, hListOf_t, hTupOf_l, hTupOf_t, gSeqS_def, gSet_def, gRet_def, gIfS_def, gNext_def, gTup_def, gLst_def, List.getElem?_cons_zero, List.getElem?_cons_succ, List.set_cons_zero, List.set_cons_succ, List.length_cons, List.length_nil, Nat.zero_add, Nat.reduceAdd, Nat.reduceLeDiff, Nat.reduceSub, Nat.reduceMul, if_true, if_false, Bool.false_eq_true, List.replicate_succ, List.replicate_zero, List.cons_append, List.nil_append, tgN, tgT, tgCons, tgNil, Int.reducePow, Int.reduceAdd, Int.reduceSub, Int.reduceMul, decide_true, decide_false, Bool.not_true, Bool.not_false, gChain_def, hIsa_int, hIsa_intb, hIsa_list, hIsa_tuple, gDrop_def, spS, this]
        · refine seq_step (for_ok (ds := ts.map enc3) rfl k1) ?_
          rw [set_ok (d := .int ((k : Int) + 1)) rfl]
          rfl
      obtain ⟨cs2, k', y7, y8, y9, g1, g2, g3⟩ := spread_while ha hn hr fu (k + 1) cs' (.int (kys cs)[k]) d8' d9' (by omega) (by
        rw [k3]; unfold kys; rw [List.map_append, List.length_append]; have := c.1; unfold kys at this; omega) k2 (by
        intro j hj hjk t ht q hq'
        have hj0 : j < (kys cs).length := by have := c.1; omega
        have ej : (kys cs')[j] = (kys cs)[j] := by
          have : kys cs' = kys cs ++ kys ex := by rw [k3]; unfold kys; rw [List.map_append]
          simp only [this]
          rw [List.getElem_append_left hj0]
        rw [ej] at hq'
        by_cases z : j = k
        · subst z; exact k4 t ht q hq'
        · have := hq j hj0 (by omega) t ht q hq'
          rw [k3]; unfold kys; rw [List.map_append]; exact List.mem_append_left _ this)
      exact ⟨cs2, k', y7, y8, y9, by rw [while_t h0 h1]; exact g1, g2, g3⟩
    · have h0 : g_spread_T2 (spS (.dict (encF φ ts)) (.list (ts.map enc3)) a b cs k d7 d8 d9) = .ok false := by
        rw [hT]
        by_cases c1 : k < (kys cs).length
        · have : b ∈ kys cs := Classical.byContradiction fun z => c ⟨c1, z⟩
          simp [this]
        · simp [c1]
      refine ⟨cs, k, d7, d8, d9, while_f h0 (by omega), hc, ?_⟩
      by_cases c1 : k < (kys cs).length
      · exact .inl (Classical.byContradiction fun z => c ⟨c1, z⟩)
      · refine .inr fun p hp t ht q hq' => ?_
        obtain ⟨j, hj, e⟩ := List.getElem_of_mem hp
        exact hq j hj (by omega) t ht q (by rw [e]; exact hq')
theorem spread_ok {φ : Int → Int} {ts : List T3} {a b n : Int} (ha : 0 ≤ a ∧ a < n) (hn : n ≤ 100) (hr : ∀ t ∈ ts, (0 ≤ t.2.1 ∧ t.2.1 < n) ∧ 0 ≤ t.2.2 ∧ t.2.2 < n) :
    ∃ cs, f_spread [.dict (encF φ ts), .list (ts.map enc3), .int a, .int b] = .ok (.dict (encC cs)) ∧ Came φ ts a cs ∧ (b ∈ kys cs ∨ ∀ p ∈ kys cs, ∀ t ∈ ts, ∀ q, goT φ t p = some q → q ∈ kys cs) := by
  obtain ⟨cs, k, d7, d8, d9, h1, h2, h3⟩ := spread_while (φ := φ) (ts := ts) (b := b) ha hn hr 1000 0 [(a, none)] .none .none .none (by omega) (Nat.zero_le _) .one (fun j _ hj => by omega)
  refine ⟨cs, fnN_rt ?_, h2, h3⟩
  show g_spread [.dict (encF φ ts), .list (ts.map enc3), .int a, .int b, .none, .none, .none, .none, .none, .none] = _
  unfold g_spread
  refine seq_step (set_ok (d := .dict (encC [(a, none)])) rfl) ?_
  refine seq_step (set_ok (d := .list ((kys [(a, none)]).map .int)) rfl) ?_
  refine seq_step (set_ok (d := .int 0) rfl) ?_
  refine seq_step h1 ?_
  exact ret_ok rfl
end FlowL
end T_FlowP

section T_FlowQ
set_option linter.all false
set_option maxRecDepth 100000
set_option maxHeartbeats 4000000
/-! FlowQ: push, next_tie, one_way, ways_and_side. -/
namespace FlowL
open PySem Sim FamA Flow

theorem scl_F (φ : Int → Int) : ∀ ts : List T3, sclV (encF φ ts) = true
  | [] => rfl
  | t :: ts => by
    show sclV ((.int t.1, .int (φ t.1)) :: encF φ ts) = true
    unfold sclV
    rw [scl_F φ ts]
    rfl
theorem dput_F {φ : Int → Int} {ts : List T3} {m z : Int} {i : Nat} {gv gk : Gd} {ρ : List Dt} (h : ∃ s ∈ ts, s.1 = m) (hl : ts.length ≤ 1000) (h1 : ρ[i]? = some (.dict (encF φ ts))) (h2 : gv ρ = .ok (.int z)) (h3 : gk ρ = .ok (.int m)) :
    gDPut i gv gk ρ = .ok (.nx (ρ.set i (.dict (encF (upd φ m z) ts)))) := by
  unfold gDPut dAt
  rw [h2, bnd_ok, h1]
  simp only
  rw [h3, bnd_ok]
  simp only [keyOf_i]
  rw [if_pos (by rw [encF_len]; omega), encF_put h]

/-! ### push -/
theorem push_turn {φ ψ : Int → Int} {ts : List T3} {t : T3} {h p : Int} {cs : CL} {d2 d4 d5 : Dt} (ht : t ∈ ts) (hl : ts.length ≤ 1000) (hc : dGet (encC cs) (.inl p) = some (encO (some (h, t)))) :
    g_push_T1 [.dict (encF ψ ts), .dict (encC cs), d2, .int p, d4, d5] = .ok true ∧
    g_push_L1 [.dict (encF ψ ts), .dict (encC cs), d2, .int p, d4, d5] = .ok (.nx [.dict (encF (psh ψ t h) ts), .dict (encC cs), d2, .int h, .int h, enc3 t]) := by
  have hx : gOp hDIx (gVar 1) (gVar 3) [.dict (encF ψ ts), .dict (encC cs), d2, .int p, d4, d5] = .ok (.tuple [.int h, enc3 t]) := dix_ok (keyOf_i p) hc
  have hF : hDIx (.dict (encF ψ ts)) (.int t.1) = .ok (.int (ψ t.1)) := dix_F ⟨t, ht, rfl⟩
  constructor
  · unfold g_push_T1
    rw [gTest_def, gOp_def, hx]
    rfl
  · unfold g_push_L1
    refine seq_step (asg_ok (ρ' := [.dict (encF ψ ts), .dict (encC cs), d2, .int p, .int h, enc3 t]) hx rfl) ?_
    unfold psh
    by_cases c : h = t.2.1
    · rw [if_pos c]
      refine seq_step ((if_t (by simp only [bnd_ok, gVar_def, gC_def, gOp_def, gUn_def, gNil_def, gCons_def, gIf_def, gTest_def, gNot_def, gAnd_def, gOr_def, gAndV_def, gOrV_def, gNotV_def, gCB_def, asB_b, hAdd_i, hSub_i, hLt_i, hLe_i, hGt_i, hGe_i, hMul_r, hMul_l, hMod_i, hDiv_s, hBand_i, hShr_i, hPow_10_18, hPow_10_27, hPow_10_28, hPow_10_29, hPow_10_30, hEq_i, hNe_i, hLen_l, hLen_t, hMin2_i, hMax2_i, hMin3_i, hInt1_b, hInt1_i, hBits_i, hListOf_l, hListOf_t, hTupOf_l, hTupOf_t, gSeqS_def, gSet_def, gRet_def, gIfS_def, gNext_def, gTup_def, gLst_def, List.getElem?_cons_zero, List.getElem?_cons_succ, List.set_cons_zero, List.set_cons_succ, List.length_cons, List.length_nil, Nat.zero_add, Nat.reduceAdd, Nat.reduceLeDiff, Nat.reduceSub, Nat.reduceMul, if_true, if_false, Bool.false_eq_true, List.replicate_succ, List.replicate_zero, List.cons_append, List.nil_append, tgN, tgT, tgCons, tgNil, Int.reducePow, Int.reduceAdd, Int.reduceSub, Int.reduceMul, decide_true, decide_false, Bool.not_true, Bool.not_false, gChain_def, hIsa_int, hIsa_intb, hIsa_list, hIsa_tuple, gDrop_def, ix3_1]; simp [c])).trans (dput_F (φ := ψ) (ts := ts) (m := t.1) (z := ψ t.1 + 1) ⟨t, ht, rfl⟩ hl rfl (by simp only [bnd_ok, gVar_def, gC_def, gOp_def, gUn_def, gNil_def, gCons_def, gIf_def, gTest_def, gNot_def, gAnd_def, gOr_def, gAndV_def, gOrV_def, gNotV_def, gCB_def, asB_b, hAdd_i, hSub_i, hLt_i, hLe_i, hGt_i, hGe_i, hMul_r, hMul_l, hMod_i, hDiv_s, hBand_i, hShr_i, hPow_10_18, hPow_10_27, hPow_10_28, hPow_10_29, hPow_10_30, hEq_i, hNe_i, hLen_l, hLen_t, hMin2_i, hMax2_i, hMin3_i, hInt1_b, hInt1_i, hBits_i, hListOf_l, hListOf_t, hTupOf_l, hTupOf_t, gSeqS_def, gSet_def, gRet_def, gIfS_def, gNext_def, gTup_def, gLst_def, List.getElem?_cons_zero, List.getElem?_cons_succ, List.set_cons_zero, List.set_cons_succ, List.length_cons, List.length_nil, Nat.zero_add, Nat.reduceAdd, Nat.reduceLeDiff, Nat.reduceSub, Nat.reduceMul, if_true, if_false, Bool.false_eq_true, List.replicate_succ, List.replicate_zero, List.cons_append, List.nil_append, tgN, tgT, tgCons, tgNil, Int.reducePow, Int.reduceAdd, Int.reduceSub, Int.reduceMul, decide_true, decide_false, Bool.not_true, Bool.not_false, gChain_def, hIsa_int, hIsa_intb, hIsa_list, hIsa_tuple, gDrop_def, ix3_0, hF]) rfl)) ?_
      rfl
    · rw [if_neg c]
      refine seq_step ((if_f (by simp only [bnd_ok, gVar_def, gC_def, gOp_def, gUn_def, gNil_def, gCons_def, gIf_def, gTest_def, gNot_def, gAnd_def, gOr_def, gAndV_def, gOrV_def, gNotV_def, gCB_def, asB_b, hAdd_i, hSub_i, hLt_i, hLe_i, hGt_i, hGe_i, hMul_r, hMul_l, hMod_i, hDiv_s, hBand_i, hShr_i, hPow_10_18, hPow_10_27, hPow_10_28, hPow_10_29, hPow_10_30, hEq_i, hNe_i, hLen_l, hLen_t, hMin2_i, hMax2_i, hMin3_i, hInt1_b, hInt1_i, hBits_i, hListOf_l, hListOf_t, hTupOf_l, hTupOf_t, gSeqS_def, gSet_def, gRet_def, gIfS_def, gNext_def, gTup_def, gLst_def, List.getElem?_cons_zero, List.getElem?_cons_succ, List.set_cons_zero, List.set_cons_succ, List.length_cons, List.length_nil, Nat.zero_add, Nat.reduceAdd, Nat.reduceLeDiff, Nat.reduceSub, Nat.reduceMul, if_true, if_false, Bool.false_eq_true, List.replicate_succ, List.replicate_zero, List.cons_append, List.nil_append, tgN, tgT, tgCons, tgNil, Int.reducePow, Int.reduceAdd, Int.reduceSub, Int.reduceMul, decide_true, decide_false, Bool.not_true, Bool.not_false, gChain_def, hIsa_int, hIsa_intb, hIsa_list, hIsa_tuple, gDrop_def, ix3_1]; simp [c])).trans (dput_F (φ := ψ) (ts := ts) (m := t.1) (z := ψ t.1 - 1) ⟨t, ht, rfl⟩ hl rfl (by simp only [bnd_ok, gVar_def, gC_def, gOp_def, gUn_def, gNil_def, gCons_def, gIf_def, gTest_def, gNot_def, gAnd_def, gOr_def, gAndV_def, gOrV_def, gNotV_def, gCB_def, asB_b, hAdd_i, hSub_i, hLt_i, hLe_i, hGt_i, hGe_i, hMul_r, hMul_l, hMod_i, hDiv_s, hBand_i, hShr_i, hPow_10_18, hPow_10_27, hPow_10_28, hPow_10_29, hPow_10_30, hEq_i, hNe_i, hLen_l, hLen_t, hMin2_i, hMax2_i, hMin3_i, hInt1_b, hInt1_i, hBits_i, hListOf_l, hListOf_t, hTupOf_l, hTupOf_t, gSeqS_def, gSet_def, gRet_def, gIfS_def, gNext_def, gTup_def, gLst_def, List.getElem?_cons_zero, List.getElem?_cons_succ, List.set_cons_zero, List.set_cons_succ, List.length_cons, List.length_nil, Nat.zero_add, Nat.reduceAdd, Nat.reduceLeDiff, Nat.reduceSub, Nat.reduceMul, if_true, if_false, Bool.false_eq_true, List.replicate_succ, List.replicate_zero, List.cons_append, List.nil_append, tgN, tgT, tgCons, tgNil, Int.reducePow, Int.reduceAdd, Int.reduceSub, Int.reduceMul, decide_true, decide_false, Bool.not_true, Bool.not_false, gChain_def, hIsa_int, hIsa_intb, hIsa_list, hIsa_tuple, gDrop_def, ix3_0, hF]) rfl)) ?_
      rfl
theorem kys_app (cs ex : CL) : kys (cs ++ ex) = kys cs ++ kys ex := by unfold kys; rw [List.map_append]
theorem push_while {φ : Int → Int} {ts : List T3} {s : Int} (hd : Dst ts) (hl : ts.length ≤ 1000) {cs : CL} (hc : Came φ ts s cs) :
    ∀ (ex : CL), (kys (cs ++ ex)).Nodup → ∀ h ∈ kys cs, ∀ ψ, Unit1 ψ ts → (∀ t ∈ ts, t.2.1 ∈ kys cs → t.2.2 ∈ kys cs → ψ t.1 = φ t.1) → ∀ fu, cs.length < fu → ∀ d2 d4 d5,
    ∃ ψ' h' d4' d5', gWhile g_push_T1 g_push_L1 fu [.dict (encF ψ ts), .dict (encC (cs ++ ex)), d2, .int h, d4, d5] = .ok (.nx [.dict (encF ψ' ts), .dict (encC (cs ++ ex)), d2, h', d4', d5']) ∧ Unit1 ψ' ts ∧ ∀ P, fsum ψ' P ts = fsum ψ P ts + (P s - P h) := by
  induction hc with
  | one =>
    intro ex hn h hh ψ u eq fu hf d2 d4 d5
    have hh : h = s := List.mem_singleton.mp hh
    subst hh
    refine ⟨ψ, .int h, d4, d5, while_f ?_ (by omega), u, fun P => by omega⟩
    unfold g_push_T1
    have hx : gOp hDIx (gVar 1) (gVar 3) [.dict (encF ψ ts), .dict (encC ([(h, none)] ++ ex)), d2, .int h, d4, d5] = .ok .none := dix_ok (keyOf_i h) (encC_get (o := none) hn (List.mem_append_left _ (List.mem_singleton.mpr rfl)))
    rw [gTest_def, gOp_def, hx]
    rfl
  | @snoc cs h0 p t hc hh0 ht hg np ih =>
    intro ex hn h hh ψ u eq fu hf d2 d4 d5
    rw [List.length_append, List.length_singleton] at hf
    have ea : cs ++ [(p, some (h0, t))] ++ ex = cs ++ ((p, some (h0, t)) :: ex) := by rw [List.append_assoc]; rfl
    rw [ea] at hn ⊢
    have up : ∀ {x : Int}, x ∈ kys cs → x ∈ kys (cs ++ [(p, some (h0, t))]) := fun hx => by rw [kys_snoc]; exact List.mem_append_left _ hx
    have pin : p ∈ kys (cs ++ [(p, some (h0, t))]) := by rw [kys_snoc]; exact List.mem_append_right _ (List.mem_singleton.mpr rfl)
    by_cases c : h ∈ kys cs
    · exact ih _ hn h c ψ u (fun t' h1 h2 h3 => eq t' h1 (up h2) (up h3)) fu (by omega) d2 d4 d5
    · have hp : h = p := by
        rw [kys_snoc] at hh
        rcases List.mem_append.mp hh with z | z
        · exact absurd z c
        · exact List.mem_singleton.mp z
      subst hp
      have et : ψ t.1 = φ t.1 := by
        rcases (goT_end hg).1 with ⟨e1, e2, _⟩ | ⟨e1, e2, _⟩
        · exact eq t ht (e1 ▸ up hh0) (e2 ▸ pin)
        · exact eq t ht (e2 ▸ pin) (e1 ▸ up hh0)
      obtain ⟨b1, b2⟩ := push_turn (φ := φ) (ψ := ψ) (cs := cs ++ ((h, some (h0, t)) :: ex)) (d2 := d2) (d4 := d4) (d5 := d5) ht hl (encC_get (o := some (h0, t)) hn (List.mem_append_right _ List.mem_cons_self))
      cases fu with
      | zero => omega
      | succ fu =>
        obtain ⟨ψ', h', d4', d5', k1, k2, k3⟩ := ih _ hn h0 hh0 (psh ψ t h0) (psh_unit u hd ht hg et) (fun t' h1 h2 h3 => by
          rw [psh_out]
          · exact eq t' h1 (up h2) (up h3)
          · intro z
            have := dst_inj hd h1 ht z
            subst this
            rcases (goT_end hg).1 with ⟨_, e2, _⟩ | ⟨_, e2, _⟩
            · exact np (e2 ▸ h3)
            · exact np (e2 ▸ h2)) fu (by omega) d2 (.int h0) (enc3 t)
        refine ⟨ψ', h', d4', d5', by rw [while_t b1 b2]; exact k1, k2, fun P => ?_⟩
        rw [k3 P, psh_sum hd ht ψ hg P]
        omega
theorem push_ok {φ : Int → Int} {ts : List T3} {a b : Int} {cs : CL} (hd : Dst ts) (hl : ts.length ≤ 1000) (hc : Came φ ts a cs) (hcl : cs.length ≤ 500) (u : Unit1 φ ts) (hb : b ∈ kys cs) :
    ∃ ψ, f_push [.dict (encF φ ts), .dict (encC cs), .int b] = .ok (.tuple [.none, .dict (encF ψ ts)]) ∧ Unit1 ψ ts ∧ ∀ P, fsum ψ P ts = fsum φ P ts + (P a - P b) := by
  obtain ⟨ψ, h', d4, d5, h1, h2, h3⟩ := push_while hd hl hc [] (by rw [List.append_nil]; exact hc.nodup) b hb φ u (fun _ _ _ _ => rfl) 1000 (by omega) (.int b) .none .none
  rw [List.append_nil] at h1
  refine ⟨ψ, ?_, h2, h3⟩
  refine fnM_nx (ρ := [.dict (encF ψ ts), .dict (encC cs), .int b, h', d4, d5]) ?_ rfl (scl_F ψ ts)
  show g_push [.dict (encF φ ts), .dict (encC cs), .int b, .none, .none, .none] = _
  unfold g_push
  exact seq_step (set_ok (d := .int b) rfl) h1

/-! ### next_tie -/
def outT (φ : Int → Int) (h : Int) (t : T3) : Prop := (t.2.1 = h ∧ φ t.1 = 1) ∨ (t.2.2 = h ∧ φ t.1 = -1)
theorem next_for {φ : Int → Int} {ts : List T3} {h : Int} {T : Dt} : ∀ (us : List T3), (∀ t ∈ us, t ∈ ts) → (∃ t ∈ us, outT φ h t) → ∀ d3,
    ∃ t ∈ us, ∃ q, (t.2.1 = h ∧ φ t.1 = 1 ∧ q = t.2.2 ∨ t.2.2 = h ∧ φ t.1 = -1 ∧ q = t.2.1) ∧ forE (tgN 3) g_next_tie_L1 (us.map enc3) [.dict (encF φ ts), T, .int h, d3] = .ok (.rt (.tuple [.int t.1, .int q]))
  | [], _, h, _ => by obtain ⟨_, h, _⟩ := h; cases h
  | t :: us, hs, he, d3 => by
    have hF : hDIx (.dict (encF φ ts)) (.int t.1) = .ok (.int (φ t.1)) := dix_F ⟨t, hs t List.mem_cons_self, rfl⟩
    have st : tgN 3 (enc3 t) [.dict (encF φ ts), T, .int h, d3] = .ok [.dict (encF φ ts), T, .int h, enc3 t] := rfl
    by_cases c1 : t.2.1 = h ∧ φ t.1 = 1
    · refine ⟨t, List.mem_cons_self, t.2.2, .inl ⟨c1.1, c1.2, rfl⟩, ?_⟩
      rw [List.map_cons]
      unfold forE
      rw [st]
      simp only
      have : g_next_tie_L1 [.dict (encF φ ts), T, .int h, enc3 t] = .ok (.rt (.tuple [.int t.1, .int t.2.2])) := by
        unfold g_next_tie_L1
        exact seq_rt ((if_t (by simp only [bnd_ok, gVar_def, gC_def, gOp_def, gUn_def, gNil_def, gCons_def, gIf_def, gTest_def, gNot_def, gAnd_def, gOr_def, gAndV_def, gOrV_def, gNotV_def, gCB_def, asB_b, hAdd_i, hSub_i, hLt_i, hLe_i, hGt_i, hGe_i, hMul_r, hMul_l, hMod_i, hDiv_s, hBand_i, hShr_i, hPow_10_18, hPow_10_27, hPow_10_28, hPow_10_29, hPow_10_30, hEq_i, hNe_i, hLen_l, hLen_t, hMin2_i, hMax2_i, hMin3_i, hInt1_b, hInt1_i, hBits_i, hListOf_l, hListOf_t, hTupOf_l, hTupOf_t, gSeqS_def, gSet_def, gRet_def, gIfS_def, gNext_def, gTup_def, gLst_def, List.getElem?_cons_zero, List.getElem?_cons_succ, List.set_cons_zero, List.set_cons_succ, List.length_cons, List.length_nil, Nat.zero_add, Nat.reduceAdd, Nat.reduceLeDiff, Nat.reduceSub, Nat.reduceMul, if_true, if_false, Bool.false_eq_true, List.replicate_succ, List.replicate_zero, List.cons_append, List.nil_append, tgN, tgT, tgCons, tgNil, Int.reducePow, Int.reduceAdd, Int.reduceSub, Int.reduceMul, decide_true, decide_false, Bool.not_true, Bool.not_false, gChain_def, hIsa_int, hIsa_intb, hIsa_list, hIsa_tuple, gDrop_def, ix3_1, ix3_0, hF]; simp [c1])).trans (ret_ok rfl))
      rw [this, bnd_ok]
    · have t1 : gAnd (gTest (gOp hEq (gOp hIx (gVar 3) (gC (.int (1)))) (gVar 2))) (gTest (gOp hEq (gOp hDIx (gVar 0) (gOp hIx (gVar 3) (gC (.int (0))))) (gC (.int (1))))) [.dict (encF φ ts), T, .int h, enc3 t] = .ok false := by
        simp only [bnd_ok, gVar_def, gC_def, gOp_def, gUn_def, gNil_def, gCons_def, gIf_def, gTest_def, gNot_def, gAnd_def, gOr_def, gAndV_def, gOrV_def, gNotV_def, gCB_def, asB_b, hAdd_i, hSub_i, hLt_i, hLe_i, hGt_i, hGe_i, hMul_r, hMul_l, hMod_i, hDiv_s, hBand_i, hShr_i, hPow_10_18, hPow_10_27, hPow_10_28, hPow_10_29, hPow_10_30, hEq_i, hNe_i, hLen_l, hLen_t, hMin2_i, hMax2_i, hMin3_i, hInt1_b, hInt1_i, hBits_i, hListOf_l, hListOf_t, hTupOf_l, hTupOf_t, gSeqS_def, gSet_def, gRet_def, gIfS_def, gNext_def, gTup_def, gLst_def, List.getElem?_cons_zero, List.getElem?_cons_succ, List.set_cons_zero, List.set_cons_succ, List.length_cons, List.length_nil, Nat.zero_add, Nat.reduceAdd, Nat.reduceLeDiff, Nat.reduceSub, Nat.reduceMul, if_true, if_false, Bool.false_eq_true, List.replicate_succ, List.replicate_zero, List.cons_append, List.nil_append, tgN, tgT, tgCons, tgNil, Int.reducePow, Int.reduceAdd, Int.reduceSub, Int.reduceMul, decide_true, decide_false, Bool.not_true, Bool.not_false, gChain_def, hIsa_int, hIsa_intb, hIsa_list, hIsa_tuple, gDrop_def, ix3_1, ix3_0, hF]
        by_cases e : t.2.1 = h
        · have : ¬ φ t.1 = 1 := fun z => c1 ⟨e, z⟩
          simp [e, this]
        · simp [e]
      by_cases c2 : t.2.2 = h ∧ φ t.1 = -1
      · refine ⟨t, List.mem_cons_self, t.2.1, .inr ⟨c2.1, c2.2, rfl⟩, ?_⟩
        rw [List.map_cons]
        unfold forE
        rw [st]
        simp only
        have : g_next_tie_L1 [.dict (encF φ ts), T, .int h, enc3 t] = .ok (.rt (.tuple [.int t.1, .int t.2.1])) := by
          unfold g_next_tie_L1
          refine seq_step ((if_f t1).trans rfl) ?_
          exact (if_t (by simp only [bnd_ok, gVar_def, gC_def, gOp_def, gUn_def, gNil_def, gCons_def, gIf_def, gTest_def, gNot_def, gAnd_def, gOr_def, gAndV_def, gOrV_def, gNotV_def, gCB_def, asB_b, hAdd_i, hSub_i, hLt_i, hLe_i, hGt_i, hGe_i, hMul_r, hMul_l, hMod_i, hDiv_s, hBand_i, hShr_i, hPow_10_18, hPow_10_27, hPow_10_28, hPow_10_29, hPow_10_30, hEq_i, hNe_i, hLen_l, hLen_t, hMin2_i, hMax2_i, hMin3_i, hInt1_b, hInt1_i, hBits_i, hListOf_l, hListOf_t, hTupOf_l, hTupOf_t, gSeqS_def, gSet_def, gRet_def, gIfS_def, gNext_def, gTup_def, gLst_def, List.getElem?_cons_zero, List.getElem?_cons_succ, List.set_cons_zero, List.set_cons_succ, List.length_cons, List.length_nil, Nat.zero_add, Nat.reduceAdd, Nat.reduceLeDiff, Nat.reduceSub, Nat.reduceMul, if_true, if_false, Bool.false_eq_true, List.replicate_succ, List.replicate_zero, List.cons_append, List.nil_append, tgN, tgT, tgCons, tgNil, Int.reducePow, Int.reduceAdd, Int.reduceSub, Int.reduceMul, decide_true, decide_false, Bool.not_true, Bool.not_false, gChain_def, hIsa_int, hIsa_intb, hIsa_list, hIsa_tuple, gDrop_def, ix3_2, ix3_0, hF, hU_neg]; simp [c2])).trans (ret_ok rfl)
        rw [this, bnd_ok]
      · have t2 : g_next_tie_L1 [.dict (encF φ ts), T, .int h, enc3 t] = .ok (.nx [.dict (encF φ ts), T, .int h, enc3 t]) := by
          unfold g_next_tie_L1
          refine seq_step ((if_f t1).trans rfl) ?_
          refine (if_f ?_).trans rfl
          simp only [bnd_ok, gVar_def, gC_def, gOp_def, gUn_def, gNil_def, gCons_def, gIf_def, gTest_def, gNot_def, gAnd_def, gOr_def, gAndV_def, gOrV_def, gNotV_def, gCB_def, asB_b, hAdd_i, hSub_i, hLt_i, hLe_i, hGt_i, hGe_i, hMul_r, hMul_l, hMod_i, hDiv_s, hBand_i, hShr_i, hPow_10_18, hPow_10_27, hPow_10_28, hPow_10_29, hPow_10_30, hEq_i, hNe_i, hLen_l, hLen_t, hMin2_i, hMax2_i, hMin3_i, hInt1_b, hInt1_i, hBits_i, hListOf_l, hListOf_t, hTupOf_l, hTupOf_t, gSeqS_def, gSet_def, gRet_def, gIfS_def, gNext_def, gTup_def, gLst_def, List.getElem?_cons_zero, List.getElem?_cons_succ, List.set_cons_zero, List.set_cons_succ, List.length_cons, List.length_nil, Nat.zero_add, Nat.reduceAdd, Nat.reduceLeDiff, Nat.reduceSub, Nat.reduceMul, if_true, if_false, Bool.false_eq_true, List.replicate_succ, List.replicate_zero, List.cons_append, List.nil_append, tgN, tgT, tgCons, tgNil, Int.reducePow, Int.reduceAdd, Int.reduceSub, Int.reduceMul, decide_true, decide_false, Bool.not_true, Bool.not_false, gChain_def, hIsa_int, hIsa_intb, hIsa_list, hIsa_tuple, gDrop_def, ix3_2, ix3_0, hF, hU_neg]
          by_cases e : t.2.2 = h
          · have : ¬ φ t.1 = -1 := fun z => c2 ⟨e, z⟩
            simp [e, this]
          · simp [e]
        obtain ⟨t', ht', q, g1, g2⟩ := next_for us (fun s hs' => hs s (List.mem_cons_of_mem _ hs')) (by
          obtain ⟨s, hs', z⟩ := he
          rcases List.mem_cons.mp hs' with e | hs'
          · subst e
            rcases z with z | z
            · exact absurd z c1
            · exact absurd z c2
          · exact ⟨s, hs', z⟩) (enc3 t)
        refine ⟨t', List.mem_cons_of_mem _ ht', q, g1, ?_⟩
        rw [List.map_cons]
        unfold forE
        rw [st]
        simp only
        rw [t2, bnd_ok]
        exact g2
theorem next_ok {φ : Int → Int} {ts : List T3} {h : Int} (he : ∃ t ∈ ts, outT φ h t) :
    ∃ t ∈ ts, ∃ q, (t.2.1 = h ∧ φ t.1 = 1 ∧ q = t.2.2 ∨ t.2.2 = h ∧ φ t.1 = -1 ∧ q = t.2.1) ∧ f_next_tie [.dict (encF φ ts), .list (ts.map enc3), .int h] = .ok (.tuple [.int t.1, .int q]) := by
  obtain ⟨t, ht, q, g1, g2⟩ := next_for (φ := φ) (ts := ts) (T := .list (ts.map enc3)) ts (fun _ h => h) he .none
  refine ⟨t, ht, q, g1, fnN_rt ?_⟩
  show g_next_tie [.dict (encF φ ts), .list (ts.map enc3), .int h, .none] = _
  unfold g_next_tie
  exact seq_rt (for_ok (ds := ts.map enc3) rfl g2)

/-! ### one_way -/
inductive Way (ts : List T3) : Int → List Int → Int → Prop
  | nil (h : Int) : Way ts h [] h
  | cons {h q b : Int} {t : T3} {w : List Int} : t ∈ ts → t.2.1 ≠ t.2.2 → (t.2.1 = h ∧ t.2.2 = q ∨ t.2.2 = h ∧ t.2.1 = q) → Way ts q w b → Way ts h (t.1 :: w) b
theorem unit_zero {ψ : Int → Int} {ts : List T3} (u : Unit1 ψ ts) (m : Int) : Unit1 (upd ψ m 0) ts := by
  refine ⟨fun s hs => ?_, fun s hs => ?_, fun s hs hz => ?_⟩
  · by_cases z : s.1 = m
    · rw [z, upd_self]; decide
    · rw [upd_ne z]; exact u.lo s hs
  · by_cases z : s.1 = m
    · rw [z, upd_self]; decide
    · rw [upd_ne z]; exact u.hi s hs
  · by_cases z : s.1 = m
    · rw [z, upd_self]
    · rw [upd_ne z]; exact u.loop s hs hz
theorem way_while {ts : List T3} {a b : Int} (hd : Dst ts) (hl : ts.length ≤ 900) (v : Nat) (hab : a ≠ b) :
    ∀ (fu : Nat) (ψ : Int → Int) (h : Int) (pre : List Int) (d6 : Dt), live ψ ts < fu → pre.length + live ψ ts ≤ 900 → Unit1 ψ ts → (∀ P, fsum ψ P ts = v * (P a - P b) + (P h - P b)) →
    ∃ ψ' w d5' d6', gWhile g_one_way_T1 g_one_way_L1 fu [.dict (encF ψ ts), .list (ts.map enc3), .int a, .int b, .list (pre.map .int), .int h, d6] = .ok (.nx [.dict (encF ψ' ts), .list (ts.map enc3), .int a, .int b, .list ((pre ++ w).map .int), d5', d6']) ∧
      Unit1 ψ' ts ∧ Bal ψ' ts a b v ∧ Way ts h w b ∧ w.Nodup ∧ (∀ m ∈ w, ψ m ≠ 0 ∧ ∃ t ∈ ts, t.1 = m) ∧ (∀ x, ψ' x = if x ∈ w then 0 else ψ x)
  | 0, ψ, h, pre, d6, hf, _, _, _ => by omega
  | fu + 1, ψ, h, pre, d6, hf, hp, u, hs => by
    have hT : g_one_way_T1 [.dict (encF ψ ts), .list (ts.map enc3), .int a, .int b, .list (pre.map .int), .int h, d6] = .ok (!decide (h = b)) := by
      unfold g_one_way_T1
      simp only [bnd_ok, gVar_def, gC_def, gOp_def, gUn_def, gNil_def, gCons_def, gIf_def, gTest_def, gNot_def, gAnd_def, gOr_def, gAndV_def, gOrV_def, gNotV_def, gCB_def, asB_b, hAdd_i, hSub_i, hLt_i, hLe_i, hGt_i, hGe_i, hMul_r, hMul_l, hMod_i, hDiv_s, hBand_i, hShr_i, hPow_10_18, hPow_10_27, hPow_10_28, hPow_10_29, hPow_10_30, hEq_i, hNe_i, hLen_l, hLen_t, hMin2_i, hMax2_i, hMin3_i, hInt1_b, hInt1_i, hBits_i, hListOf_l, hListOf_t, hTupOf_l, hTupOf_t, gSeqS_def, gSet_def, gRet_def, gIfS_def, gNext_def, gTup_def, gLst_def, List.getElem?_cons_zero, List.getElem?_cons_succ, List.set_cons_zero, List.set_cons_succ, List.length_cons, List.length_nil, Nat.zero_add, Nat.reduceAdd, Nat.reduceLeDiff, Nat.reduceSub, Nat.reduceMul, if_true, if_false, Bool.false_eq_true, List.replicate_succ, List.replicate_zero, List.cons_append, List.nil_append, tgN, tgT, tgCons, tgNil, Int.reducePow, Int.reduceAdd, Int.reduceSub, Int.reduceMul, decide_true, decide_false, Bool.not_true, Bool.not_false, gChain_def, hIsa_int, hIsa_intb, hIsa_list, hIsa_tuple, gDrop_def]
      by_cases e : h = b <;> simp [e]
    by_cases c : h = b
    · subst c
      refine ⟨ψ, [], .int h, d6, ?_, u, fun P => ?_, .nil h, List.nodup_nil, fun m hm => (by cases hm), fun x => (by simp)⟩
      · rw [List.append_nil]
        exact while_f (by rw [hT]; simp) (by omega)
      · rw [hs P]; omega
    · have pos : 0 < fsum ψ (fun p => if p = h then 1 else 0) ts := by
        rw [hs]
        have e1 : ¬ b = h := fun z => c z.symm
        simp only [if_neg e1, if_true]
        by_cases e : a = h
        · simp [e]
          try omega
        · simp [e]
      obtain ⟨t, ht, q, g1, g2⟩ := next_ok (out_tie u pos)
      have nz : ψ t.1 ≠ 0 := by rcases g1 with ⟨_, z, _⟩ | ⟨_, z, _⟩ <;> rw [z] <;> decide
      have nl : t.2.1 ≠ t.2.2 := fun z => nz (u.loop t ht z)
      have ll := live_zero hd ht nz
      have hL : g_one_way_L1 [.dict (encF ψ ts), .list (ts.map enc3), .int a, .int b, .list (pre.map .int), .int h, d6] = .ok (.nx [.dict (encF (upd ψ t.1 0) ts), .list (ts.map enc3), .int a, .int b, .list ((pre ++ [t.1]).map .int), .int q, .int t.1]) := by
        unfold g_one_way_L1
        refine seq_step (asg_ok (ρ' := [.dict (encF ψ ts), .list (ts.map enc3), .int a, .int b, .list (pre.map .int), .int q, .int t.1]) (callN_ok (ds := [.dict (encF ψ ts), .list (ts.map enc3), .int h]) rfl rfl g2) rfl) ?_
        refine seq_step (dput_F (φ := ψ) (ts := ts) (m := t.1) (z := 0) ⟨t, ht, rfl⟩ (by omega) rfl rfl rfl) ?_
        rw [gApp_l (ds := pre.map .int) (d := .int t.1) rfl rfl (by rw [List.length_map]; omega), map_snoc]
        rfl
      obtain ⟨ψ', w, d5', d6', k1, k2, k3, k4, k5, k6, k7⟩ := way_while hd hl v hab fu (upd ψ t.1 0) q (pre ++ [t.1]) (.int t.1) (by omega) (by rw [List.length_append, List.length_singleton]; omega)
        (unit_zero u t.1) (by
          intro P
          rw [fsum_upd hd ht, hs P]
          rcases g1 with ⟨e1, e2, e3⟩ | ⟨e1, e2, e3⟩
          · rw [e2, e1, e3]; omega
          · rw [e2, e1, e3]; omega)
      have nw : t.1 ∉ w := fun z => (k6 _ z).1 (upd_self ψ t.1 0)
      refine ⟨ψ', t.1 :: w, d5', d6', ?_, k2, k3, .cons ht nl ?_ k4, List.nodup_cons.mpr ⟨nw, k5⟩, fun m hm => ?_, fun x => ?_⟩
      · rw [while_t (by rw [hT]; simp [c]) hL, k1, List.append_assoc]
        rfl
      · rcases g1 with ⟨e1, _, e3⟩ | ⟨e1, _, e3⟩
        · exact .inl ⟨e1, e3.symm⟩
        · exact .inr ⟨e1, e3.symm⟩
      · rcases List.mem_cons.mp hm with z | hm
        · subst z; exact ⟨nz, t, ht, rfl⟩
        · have := k6 m hm
          rw [upd_ne (fun z : m = t.1 => nw (z ▸ hm))] at this
          exact this
      · rw [k7 x]
        by_cases z : x = t.1
        · subst z
          rw [if_neg nw, upd_self, if_pos List.mem_cons_self]
        · by_cases zw : x ∈ w
          · rw [if_pos zw, if_pos (List.mem_cons_of_mem _ zw)]
          · rw [if_neg zw, upd_ne z, if_neg (fun y => by rcases List.mem_cons.mp y with y | y; exact z y; exact zw y)]
theorem way_ok {ts : List T3} {a b : Int} {ψ : Int → Int} (hd : Dst ts) (hl : ts.length ≤ 900) (v : Nat) (hab : a ≠ b) (u : Unit1 ψ ts) (hs : Bal ψ ts a b ((v + 1 : Nat) : Int)) :
    ∃ ψ' w, f_one_way [.dict (encF ψ ts), .list (ts.map enc3), .int a, .int b] = .ok (.tuple [.list (w.map .int), .dict (encF ψ' ts)]) ∧ Unit1 ψ' ts ∧ Bal ψ' ts a b v ∧ Way ts a w b ∧ w.Nodup ∧ (∀ m ∈ w, ψ m ≠ 0 ∧ ∃ t ∈ ts, t.1 = m) ∧ (∀ x, ψ' x = if x ∈ w then 0 else ψ x) := by
  have ll := live_le ψ ts
  obtain ⟨ψ', w, d5, d6, k1, k2⟩ := way_while hd hl v hab 1000 ψ a [] .none (by omega) (by simp; omega) u (fun P => by
    rw [hs P, Int.natCast_add, Int.add_mul]
    simp)
  refine ⟨ψ', w, fnL_rt ?_, k2⟩
  show g_one_way [.dict (encF ψ ts), .list (ts.map enc3), .int a, .int b, .none, .none, .none] = _
  unfold g_one_way
  refine seq_step (set_ok (d := .list []) rfl) ?_
  refine seq_step (set_ok (d := .int a) rfl) ?_
  refine seq_step k1 ?_
  exact xretO_ok rfl rfl (scl_F ψ' ts)
end FlowL
end T_FlowQ

section T_FlowR
set_option linter.all false
set_option maxRecDepth 100000
set_option maxHeartbeats 4000000
/-! FlowR: ways_and_side. -/
namespace FlowL
open PySem Sim FamA Flow

def encW (w : List Int) : Dt := .list (w.map .int)
structure WaysOk (ts : List T3) (a b : Int) (c : Nat) (WS : List (List Int)) : Prop where
  many : WS.length = c
  leads : ∀ w ∈ WS, Way ts a w b
  apart : WS.flatten.Nodup
  of : ∀ m ∈ WS.flatten, ∃ t ∈ ts, t.1 = m
def Side (n : Int) (ts : List T3) (a b : Int) (m c : Nat) (sd : Dt) : Prop :=
  (c = m ∧ sd = .none) ∨ (c < m ∧ ∃ S : List Int, sd = .tuple (S.map .int) ∧ S.Sublist (pl n) ∧ a ∈ S ∧ b ∉ S ∧ rimN ts (fun p => decide (p ∈ S)) = c)

/-! ### the flow at the begin -/
theorem encF_snoc {ts : List T3} {t : T3} (h : ∀ s ∈ ts, s.1 ≠ t.1) : dPut (encF (fun _ => 0) ts) (.inl t.1) (.int 0) = encF (fun _ => 0) (ts ++ [t]) := by
  unfold dPut
  rw [if_neg]
  · unfold encF
    rw [List.map_append]
    rfl
  · intro z
    unfold encF at z
    rw [List.any_map] at z
    obtain ⟨s, hs, e⟩ := List.any_eq_true.mp z
    exact h s hs (by simpa [isK_i] using e)
theorem begin_ok {ts : List T3} {n a b m : Dt} (hd : Dst ts) (hl : ts.length ≤ 900) : ∃ d6, forE (tgN 6) g_ways_and_side_L1 (ts.map enc3) [n, .list (ts.map enc3), a, b, m, .dict [], .none, .none, .none, .none, .none, .none] = .ok (.nx [n, .list (ts.map enc3), a, b, m, .dict (encF (fun _ => 0) ts), d6, .none, .none, .none, .none, .none]) := by
  obtain ⟨ρ', h1, d6, rfl⟩ := forE_ix enc3 (h := tgN 6) (b := g_ways_and_side_L1) ts
    (fun i ρ => ∃ d6, ρ = [n, .list (ts.map enc3), a, b, m, .dict (encF (fun _ => 0) (ts.take i)), d6, .none, .none, .none, .none, .none])
    (ρ := [n, .list (ts.map enc3), a, b, m, .dict [], .none, .none, .none, .none, .none, .none]) ⟨.none, rfl⟩ (by
      rintro i ρ hi ⟨d6, rfl⟩
      refine ⟨_, _, rfl, .inl ?_, enc3 ts[i], rfl⟩
      have et : ts.take (i + 1) = ts.take i ++ [ts[i]] := by rw [List.take_add_one, List.getElem?_eq_getElem hi] <;> rfl
      rw [et, ← encF_snoc]
      · unfold g_ways_and_side_L1
        show (if (encF (fun _ => 0) (ts.take i)).length < 100000 then O.ok (Fl.nx _) else O.bad) = _
        rw [if_pos (by rw [encF_len, List.length_take]; omega)]
        rfl
      · intro s hs e
        obtain ⟨j, hj, ej⟩ := List.getElem_of_mem hs
        rw [List.length_take] at hj
        rw [List.getElem_take] at ej
        exact (List.pairwise_iff_getElem.mp hd j i (by omega) hi (by omega)) (by rw [ej]; exact e))
  rw [List.take_length] at h1
  exact ⟨d6, h1⟩

/-! ### the ways -/
theorem ways_lc {ts : List T3} {n a b : Int} {x4 x6 x7 x8 x9 x10 : Dt} (hd : Dst ts) (hl : ts.length ≤ 900) (hab : a ≠ b) :
    ∀ (xs : List Int) (ψ : Int → Int) (x11 : Dt), Unit1 ψ ts → Bal ψ ts a b (xs.length : Nat) →
    ∃ WS ψ' y11, lcX [11] (tgN 11) gYes (xCallM .ka 4 f_one_way 5 (xCons (xP (gVar 1)) (xCons (xP (gVar 2)) (xCons (xP (gVar 3)) (xNil))))) (xs.map .int) [.int n, .list (ts.map enc3), .int a, .int b, x4, .dict (encF ψ ts), x6, x7, x8, x9, x10, x11] =
      .ok (WS.map encW, [.int n, .list (ts.map enc3), .int a, .int b, x4, .dict (encF ψ' ts), x6, x7, x8, x9, x10, y11]) ∧ WaysOk ts a b xs.length WS ∧ ∀ m ∈ WS.flatten, ψ m ≠ 0
  | [], ψ, x11, u, hs => ⟨[], ψ, x11, rfl, ⟨rfl, fun w hw => (by cases hw), List.nodup_nil, fun m hm => (by cases hm)⟩, fun m hm => (by cases hm)⟩
  | x :: xs, ψ, x11, u, hs => by
    obtain ⟨ψ1, w, k1, k2, k3, k4, k5, k6, k7⟩ := way_ok hd hl xs.length hab u hs
    obtain ⟨WS, ψ', y11, g1, g2, g3⟩ := ways_lc hd hl hab xs ψ1 .none k2 k3
    refine ⟨w :: WS, ψ', y11, ?_, ⟨?_, ?_, ?_, ?_⟩, ?_⟩
    · rw [List.map_cons]
      unfold lcX
      have e1 : tgN 11 (.int x) [.int n, .list (ts.map enc3), .int a, .int b, x4, .dict (encF ψ ts), x6, x7, x8, x9, x10, x11] = .ok [.int n, .list (ts.map enc3), .int a, .int b, x4, .dict (encF ψ ts), x6, x7, x8, x9, x10, .int x] := rfl
      rw [e1, bx_ok]
      have e2 : gYes [.int n, .list (ts.map enc3), .int a, .int b, x4, .dict (encF ψ ts), x6, x7, x8, x9, x10, .int x] = .ok true := rfl
      rw [e2, bx_ok, if_pos rfl]
      rw [xcallM_ok (c := .ka) (n := 4) (g := f_one_way) (i := 5) (ρ' := [.int n, .list (ts.map enc3), .int a, .int b, x4, .dict (encF ψ ts), x6, x7, x8, x9, x10, .int x]) (ds := [.list (ts.map enc3), .int a, .int b]) (a := .dict (encF ψ ts)) rfl rfl rfl (scl_F ψ ts) k1 (scl_F ψ1 ts), bx_ok]
      show bx (lcX _ _ _ _ (xs.map .int) [.int n, .list (ts.map enc3), .int a, .int b, x4, .dict (encF ψ1 ts), x6, x7, x8, x9, x10, .none]) _ = _
      rw [g1]
      rfl
    · rw [List.length_cons, g2.many, List.length_cons]
    · intro w' hw'
      rcases List.mem_cons.mp hw' with e | hw'
      · rw [e]; exact k4
      · exact g2.leads w' hw'
    · rw [List.flatten_cons, List.nodup_append]
      refine ⟨k5, g2.apart, fun m hm m' hm' e => ?_⟩
      subst e
      have := g3 m hm'
      rw [k7, if_pos hm] at this
      exact this rfl
    · intro m hm
      rw [List.flatten_cons] at hm
      rcases List.mem_append.mp hm with hm | hm
      · exact (k6 m hm).2
      · exact g2.of m hm
    · intro m hm
      rw [List.flatten_cons] at hm
      rcases List.mem_append.mp hm with hm | hm
      · exact (k6 m hm).1
      · have := g3 m hm
        rw [k7] at this
        by_cases c : m ∈ w
        · rw [if_pos c] at this; exact absurd rfl this
        · rw [if_neg c] at this; exact this

/-! ### the turns -/
def wsS (n : Int) (ts : List T3) (a b : Int) (m : Nat) (φ : Int → Int) (d6 : Dt) (v : Nat) (sd d9 : Dt) : List Dt := [.int n, .list (ts.map enc3), .int a, .int b, .int m, .dict (encF φ ts), d6, .int v, sd, d9, .none, .none]
theorem hIs_none : hIs .none .none = .ok (.bool true) := rfl
theorem hIs_tuple (xs : List Dt) : hIs (.tuple xs) .none = .ok (.bool false) := rfl
theorem dinC {cs : CL} {p : Int} : hDInV false (.int p) (.dict (encC cs)) = .ok (.bool (decide (p ∈ kys cs))) := by
  rw [dinV_ok false (keyOf_i p), encC_isSome]
  rfl
theorem turns_ok {ts : List T3} {n a b : Int} {m : Nat} {d6 : Dt} (hd : Dst ts) (hl : ts.length ≤ 900) (ha : 0 ≤ a ∧ a < n) (hn : n ≤ 100) (hb : 0 ≤ b ∧ b < n) (hab : a ≠ b) (hr : ∀ t ∈ ts, (0 ≤ t.2.1 ∧ t.2.1 < n) ∧ 0 ≤ t.2.2 ∧ t.2.2 < n) :
    ∀ (fu v : Nat) (φ : Int → Int) (d9 : Dt), m - v < fu → v ≤ m → Unit1 φ ts → Bal φ ts a b v →
    ∃ (φ' : Int → Int) (v' : Nat) (sd d9' : Dt), gWhile g_ways_and_side_T2 g_ways_and_side_L2 fu (wsS n ts a b m φ d6 v .none d9) = .ok (.nx (wsS n ts a b m φ' d6 v' sd d9')) ∧ v' ≤ m ∧ Unit1 φ' ts ∧ Bal φ' ts a b v' ∧ Side n ts a b m v' sd
  | 0, v, φ, d9, hf, _, _, _ => by omega
  | fu + 1, v, φ, d9, hf, hv, u, hs => by
    have hT : g_ways_and_side_T2 (wsS n ts a b m φ d6 v .none d9) = .ok (decide (v < m)) := by
      unfold g_ways_and_side_T2 wsS
      simp only [bnd_ok, gVar_def, gC_def, gOp_def, gUn_def, gNil_def, gCons_def, gIf_def, gTest_def, gNot_def, gAnd_def, gOr_def, gAndV_def, gOrV_def, gNotV_def, gCB_def, asB_b, hAdd_i, hSub_i, hLt_i, hLe_i, hGt_i, hGe_i, hMul_r, hMul_l, hMod_i, hDiv_s, hBand_i, hShr_i, hPow_10_18, hPow_10_27, hPow_10_28, hPow_10_29, hPow_10_30, hEq_i, hNe_i, hLen_l, hLen_t, hMin2_i, hMax2_i, hMin3_i, hInt1_b, hInt1_i, hBits_i, hListOf_l, hListOf_t, hTupOf_l, hTupOf_t, gSeqS_def, gSet_def, gRet_def, gIfS_def, gNext_def, gTup_def, gLst_def, List.getElem?_cons_zero, List.getElem?_cons_succ, List.set_cons_zero, List.set_cons_succ, List.length_cons, List.length_nil, Nat.zero_add, Nat.reduceAdd, Nat.reduceLeDiff, Nat.reduceSub, Nat.reduceMul, if_true, if_false, Bool.false_eq_true, List.replicate_succ, List.replicate_zero, List.cons_append, List.nil_append, tgN, tgT, tgCons, tgNil, Int.reducePow, Int.reduceAdd, Int.reduceSub, Int.reduceMul, decide_true, decide_false, Bool.not_true, Bool.not_false, gChain_def, hIsa_int, hIsa_intb, hIsa_list, hIsa_tuple, gDrop_def]
      by_cases c : v < m
      · have : ((v : Nat) : Int) < m := by omega
        simp [this, c, hIs_none, asB_b]
      · have : ¬ ((v : Nat) : Int) < m := by omega
        simp [this, c]
    by_cases c : v < m
    · obtain ⟨cs, s1, s2, s3⟩ := spread_ok (φ := φ) (ts := ts) (b := b) ha hn hr
      have hin := s2.inN ha hr
      have hcl : cs.length ≤ 500 := by
        have := nodup_len s2.nodup hin
        unfold kys at this
        rw [List.length_map] at this
        omega
      have hset : gSet 9 (gCallN 4 f_spread (gCons (gVar 5) (gCons (gVar 1) (gCons (gVar 2) (gCons (gVar 3) (gNil)))))) (wsS n ts a b m φ d6 v .none d9) = .ok (.nx (wsS n ts a b m φ d6 v .none (.dict (encC cs)))) :=
        set_ok (callN_ok (ds := [.dict (encF φ ts), .list (ts.map enc3), .int a, .int b]) rfl rfl s1)
      have htst : gTest (gOp (hDInV false) (gVar 3) (gVar 9)) (wsS n ts a b m φ d6 v .none (.dict (encC cs))) = .ok (decide (b ∈ kys cs)) := by
        have : gOp (hDInV false) (gVar 3) (gVar 9) (wsS n ts a b m φ d6 v .none (.dict (encC cs))) = .ok (.bool (decide (b ∈ kys cs))) := dinC
        rw [gTest_def, this]
        rfl
      by_cases hbm : b ∈ kys cs
      · obtain ⟨ψ, p1, p2, p3⟩ := push_ok hd (by omega) s2 hcl u hbm
        have hL : g_ways_and_side_L2 (wsS n ts a b m φ d6 v .none d9) = .ok (.nx (wsS n ts a b m ψ d6 (v + 1) .none (.dict (encC cs)))) := by
          unfold g_ways_and_side_L2
          refine seq_step hset ?_
          refine (if_t (by rw [htst]; simp [hbm])).trans ?_
          refine seq_step (xdrop_ok (xcallM_ok (c := .ka) (n := 3) (g := f_push) (i := 5) (ρ' := wsS n ts a b m φ d6 v .none (.dict (encC cs))) (ds := [.dict (encC cs), .int b]) (a := .dict (encF φ ts)) rfl rfl rfl (scl_F φ ts) p1 (scl_F ψ ts))) ?_
          rw [set_ok (d := .int ((v : Int) + 1)) rfl]
          rfl
        obtain ⟨φ', v', sd, d9', g1, g2⟩ := turns_ok (m := m) hd hl ha hn hb hab hr fu (v + 1) ψ (.dict (encC cs)) (by omega) (by omega) p2 (fun P => by
          rw [p3, hs P, Int.natCast_add, Int.add_mul]
          simp)
        exact ⟨φ', v', sd, d9', by rw [while_t (by rw [hT]; simp [c]) hL]; exact g1, g2⟩
      · have cl : ∀ p ∈ kys cs, ∀ t ∈ ts, ∀ q, goT φ t p = some q → q ∈ kys cs := s3.resolve_left hbm
        have hlc := gLc_map (fun x : Int => PyData.int x) (fun x => decide (x ∈ kys cs)) (fun x => PyData.int x) (gi := gRng1 (gCons (gVar 0) gNil)) (h := tgN 10) (gt := gTest (gOp (hDInV false) (gVar 10) (gVar 9))) (ge := gVar 10)
          (ρ := wsS n ts a b m φ d6 v .none (.dict (encC cs))) (xs := pl n) ((rng1_ok (by rfl) (by omega) (by omega)).trans (by rw [rangeD_pl])) (by rw [pl_len]; omega) (by
            intro x hx
            refine ⟨_, rfl, ?_, fun _ => rfl⟩
            rw [gTest_def]
            have : gOp (hDInV false) (gVar 10) (gVar 9) ((wsS n ts a b m φ d6 v .none (.dict (encC cs))).set 10 (.int x)) = .ok (.bool (decide (x ∈ kys cs))) := dinC
            have this' : gOp (hDInV false) (gVar 10) (gVar 9) [.int n, .list (ts.map enc3), .int a, .int b, .int m, .dict (encF φ ts), d6, .int v, .none, .dict (encC cs), .int x, .none] = .ok (.bool (decide (x ∈ kys cs))) := dinC
            exact (congrArg (fun o => bnd o asB) this').trans rfl)
        have hL : g_ways_and_side_L2 (wsS n ts a b m φ d6 v .none d9) = .ok (.nx (wsS n ts a b m φ d6 v (.tuple (((pl n).filter fun x => decide (x ∈ kys cs)).map .int)) (.dict (encC cs)))) := by
          unfold g_ways_and_side_L2
          refine seq_step hset ?_
          refine (if_f (by rw [htst]; simp [hbm])).trans ?_
          refine (set_ok (d := .tuple (((pl n).filter fun x => decide (x ∈ kys cs)).map .int)) ?_).trans rfl
          rw [gCB_def, gCons_def, hlc]
          rfl
        have hT2 : g_ways_and_side_T2 (wsS n ts a b m φ d6 v (.tuple (((pl n).filter fun x => decide (x ∈ kys cs)).map .int)) (.dict (encC cs))) = .ok false := by
          unfold g_ways_and_side_T2 wsS
          simp only [bnd_ok, gVar_def, gC_def, gOp_def, gUn_def, gNil_def, gCons_def, gIf_def, gTest_def, gNot_def, gAnd_def, gOr_def, gAndV_def, gOrV_def, gNotV_def, gCB_def, asB_b, hAdd_i, hSub_i, hLt_i, hLe_i, hGt_i, hGe_i, hMul_r, hMul_l, hMod_i, hDiv_s, hBand_i, hShr_i, hPow_10_18, hPow_10_27, hPow_10_28, hPow_10_29, hPow_10_30, hEq_i, hNe_i, hLen_l, hLen_t, hMin2_i, hMax2_i, hMin3_i, hInt1_b, hInt1_i, hBits_i, hListOf_l, hListOf_t, hTupOf_l, hTupOf_t, gSeqS_def, gSet_def, gRet_def, gIfS_def, gNext_def, gTup_def, gLst_def, List.getElem?_cons_zero, List.getElem?_cons_succ, List.set_cons_zero, List.set_cons_succ, List.length_cons, List.length_nil, Nat.zero_add, Nat.reduceAdd, Nat.reduceLeDiff, Nat.reduceSub, Nat.reduceMul, if_true, if_false, Bool.false_eq_true, List.replicate_succ, List.replicate_zero, List.cons_append, List.nil_append, tgN, tgT, tgCons, tgNil, Int.reducePow, Int.reduceAdd, Int.reduceSub, Int.reduceMul, decide_true, decide_false, Bool.not_true, Bool.not_false, gChain_def, hIsa_int, hIsa_intb, hIsa_list, hIsa_tuple, gDrop_def, hIs_tuple]
          split <;> rfl
        refine ⟨φ, v, _, _, by rw [while_t (by rw [hT]; simp [c]) hL]; exact while_f hT2 (by omega), hv, u, hs, .inr ⟨c, _, rfl, List.filter_sublist, ?_, ?_, ?_⟩⟩
        · exact List.mem_filter.mpr ⟨mem_pl.mpr ha, by simpa using s2.first⟩
        · exact fun z => hbm (by simpa using (List.mem_filter.mp z).2)
        · refine closed_rim hs u (by simpa using ⟨mem_pl.mpr ha, s2.first⟩) (by simp [hbm]) fun t ht p q hp hg => ?_
          have hp : p ∈ kys cs := by
            have := of_decide_eq_true hp
            simpa using (List.mem_filter.mp this).2
          have := cl p hp t ht q hg
          exact decide_eq_true (List.mem_filter.mpr ⟨mem_pl.mpr (hin q this), by simpa using this⟩)
    · refine ⟨φ, v, .none, d9, while_f (by rw [hT]; simp [c]) (by omega), hv, u, hs, .inl ⟨by omega, rfl⟩⟩
theorem fsum_zero (P : Int → Int) : ∀ ts : List T3, fsum (fun _ => 0) P ts = 0
  | [] => rfl
  | t :: ts => by unfold fsum; rw [fsum_zero P ts]; simp
theorem ways_and_side_ok {ts : List T3} {n a b : Int} {m : Nat} (hd : Dst ts) (hl : ts.length ≤ 900) (hm : m < 900) (ha : 0 ≤ a ∧ a < n) (hn : n ≤ 100) (hb : 0 ≤ b ∧ b < n) (hab : a ≠ b) (hr : ∀ t ∈ ts, (0 ≤ t.2.1 ∧ t.2.1 < n) ∧ 0 ≤ t.2.2 ∧ t.2.2 < n) :
    ∃ (c : Nat) (WS : List (List Int)) (sd : Dt), f_ways_and_side [.int n, .list (ts.map enc3), .int a, .int b, .int m] = .ok (.tuple [.list (WS.map encW), sd]) ∧ Hng ts a b m c ∧ WaysOk ts a b c WS ∧ Side n ts a b m c sd := by
  obtain ⟨d6, b1⟩ := begin_ok (n := .int n) (a := .int a) (b := .int b) (m := .int m) hd hl
  obtain ⟨φ, c, sd, d9, t1, t2, t3, t4, t5⟩ := turns_ok (m := m) (d6 := d6) hd hl ha hn hb hab hr 1000 0 (fun _ => 0) .none (by omega) (Nat.zero_le _) ⟨fun _ _ => by omega, fun _ _ => by omega, fun _ _ _ => rfl⟩ (fun P => by rw [fsum_zero]; simp)
  have ec : ((List.range c).map (fun (i : Nat) => (i : Int))).length = c := by simp
  obtain ⟨WS, ψ', y11, w1, w2, _⟩ := ways_lc (n := n) (x4 := .int m) (x6 := d6) (x7 := .int c) (x8 := sd) (x9 := d9) (x10 := .none) hd hl hab ((List.range c).map fun (i : Nat) => (i : Int)) φ .none t3 (by rw [ec]; exact t4)
  rw [ec] at w2
  refine ⟨c, WS, sd, fnN_rt ?_, ⟨t2, fun S hS => bal_rim t4 t3 hS, ?_⟩, w2, t5⟩
  · show g_ways_and_side [.int n, .list (ts.map enc3), .int a, .int b, .int m, .none, .none, .none, .none, .none, .none, .none] = _
    unfold g_ways_and_side
    refine seq_step (set_ok (d := .dict []) rfl) ?_
    refine seq_step (for_ok (ds := ts.map enc3) rfl b1) ?_
    refine seq_step (set_ok (d := .int 0) rfl) ?_
    refine seq_step (set_ok (d := .none) rfl) ?_
    refine seq_step t1 ?_
    have hx : xLc [11] (gRng1 (gCons (gVar 7) (gNil))) (tgN 11) (gYes) (xCallM .ka 4 f_one_way 5 (xCons (xP (gVar 1)) (xCons (xP (gVar 2)) (xCons (xP (gVar 3)) (xNil))))) (wsS n ts a b m φ d6 c sd d9) =
        .ok (.list (WS.map encW), [.int n, .list (ts.map enc3), .int a, .int b, .int m, .dict (encF ψ' ts), d6, .int c, sd, d9, .none, y11]) := by
      unfold xLc
      rw [(rng1_ok (g := gCons (gVar 7) gNil) (ρ := wsS n ts a b m φ d6 c sd d9) (j := (c : Nat)) rfl (by omega) (by omega)), bx_ok, rangeD_nat]
      have : (List.range c).map (fun (i : Nat) => PyData.int (i : Int)) = ((List.range c).map fun (i : Nat) => (i : Int)).map .int := by rw [List.map_map]; rfl
      rw [this, if_pos (by simp; omega)]
      unfold wsS
      rw [w1]
      rfl
    unfold xRet
    have : xTup (xCons (xLc [11] (gRng1 (gCons (gVar 7) (gNil))) (tgN 11) (gYes) (xCallM .ka 4 f_one_way 5 (xCons (xP (gVar 1)) (xCons (xP (gVar 2)) (xCons (xP (gVar 3)) (xNil)))))) (xCons (xP (gVar 8)) (xNil))) (wsS n ts a b m φ d6 c sd d9) =
        .ok (.tuple [.list (WS.map encW), sd], [.int n, .list (ts.map enc3), .int a, .int b, .int m, .dict (encF ψ' ts), d6, .int c, sd, d9, .none, y11]) := by
      unfold xTup
      rw [xCons_def, hx]
      rfl
    rw [this]
    rfl
  · rcases t5 with ⟨h, _⟩ | ⟨_, S, _, _, h1, h2, h3⟩
    · exact .inl h
    · exact .inr ⟨_, decide_eq_true h1, by simpa using h2, h3⟩
end FlowL
end T_FlowR

section T_FlowN
set_option linter.all false
set_option maxRecDepth 100000
/-! FlowN: records; hanging strongly; what is pared; how many are kept. Plain. -/
namespace Flow
open PySem Sim FamA

structure Good (n : Int) (r : List T3) : Prop where
  len : r.length ≤ 60
  ok : ∀ t ∈ r, (0 ≤ t.1 ∧ t.1 ≤ 1000000000000000000000000000000) ∧ 0 ≤ t.2.1 ∧ t.2.1 ≤ t.2.2 ∧ t.2.2 < n
  ord : r.Pairwise fun s t => s.1 < t.1
theorem Good.sub {n : Int} {q r : List T3} (h : Good n r) (s : q.Sublist r) : Good n q := ⟨Nat.le_trans s.length_le h.len, fun t ht => h.ok t (s.subset ht), h.ord.sublist s⟩
theorem Good.filter {n : Int} {r : List T3} (h : Good n r) (p : T3 → Bool) : Good n (r.filter p) := h.sub List.filter_sublist
theorem Good.dst {n : Int} {r : List T3} (h : Good n r) : Dst r := h.ord.imp fun z e => by omega
theorem Good.inN {n : Int} {r : List T3} (h : Good n r) : ∀ t ∈ r, (0 ≤ t.2.1 ∧ t.2.1 < n) ∧ 0 ≤ t.2.2 ∧ t.2.2 < n := fun t ht => by
  obtain ⟨_, h1, h2, h3⟩ := h.ok t ht
  exact ⟨⟨h1, by omega⟩, by omega, h3⟩

/-! ### rims of parts -/
theorem rimN_sub {q r : List T3} (s : q.Sublist r) (S : Int → Bool) : rimN q S ≤ rimN r S := (s.filter _).length_le
theorem rimN_le (r : List T3) (S : Int → Bool) : rimN r S ≤ r.length := List.length_filter_le _ _
def oth (r : List T3) (t : T3) : List T3 := r.filter fun s => !(s.1 == t.1)
theorem oth_sub (r : List T3) (t : T3) : (oth r t).Sublist r := List.filter_sublist
theorem oth_mono {q r : List T3} (s : q.Sublist r) (t : T3) : (oth q t).Sublist (oth r t) := s.filter _
theorem rim_oth {S : Int → Bool} {t : T3} : ∀ {r : List T3}, Dst r → t ∈ r → rimN r S = rimN (oth r t) S + (if rimB S t then 1 else 0)
  | [], _, h => by cases h
  | s :: r, hd, h => by
    obtain ⟨h1, h2⟩ := List.pairwise_cons.mp hd
    unfold oth
    rw [List.filter_cons, rimN_cons]
    by_cases c : s.1 = t.1
    · have e : t = s := by
        rcases List.mem_cons.mp h with e | h'
        · exact e
        · exact absurd c (h1 t h')
      subst e
      have : r.filter (fun s => !(s.1 == t.1)) = r := List.filter_eq_self.mpr fun u hu => by
        have := h1 u hu
        simp [Ne.symm this]
      rw [this]
      simp
      omega
    · have h' : t ∈ r := by
        rcases List.mem_cons.mp h with e | h'
        · exact absurd (by rw [e]) c
        · exact h'
      have ih := rim_oth (S := S) h2 h'
      unfold oth at ih
      have cc : (!s.1 == t.1) = true := by simpa using c
      rw [if_pos cc, rimN_cons]
      omega
theorem oth_len {t : T3} {r : List T3} (hd : Dst r) (h : t ∈ r) : r.length = (oth r t).length + 1 := by
  induction r with
  | nil => cases h
  | cons s r ih =>
    obtain ⟨h1, h2⟩ := List.pairwise_cons.mp hd
    unfold oth
    rw [List.filter_cons]
    by_cases c : s.1 = t.1
    · have e : t = s := by
        rcases List.mem_cons.mp h with e | h'
        · exact e
        · exact absurd c (h1 t h')
      subst e
      have : r.filter (fun s => !(s.1 == t.1)) = r := List.filter_eq_self.mpr fun u hu => by
        have := h1 u hu
        simp [Ne.symm this]
      rw [this]
      simp
    · have h' : t ∈ r := by
        rcases List.mem_cons.mp h with e | h'
        · exact absurd (by rw [e]) c
        · exact h'
      have := ih h2 h'
      unfold oth at this
      rw [if_pos (by simpa using c), List.length_cons, List.length_cons]
      omega

/-! ### so often as k -/
def Strong (ts : List T3) (a b : Int) (k : Nat) : Prop := ∀ S : Int → Bool, S a ≠ S b → k ≤ rimN ts S
theorem hng_iff {ts : List T3} {a b : Int} {k c : Nat} (h : Hng ts a b k c) : c = k ↔ Strong ts a b k := by
  constructor
  · intro e S hS
    rw [← e]
    exact h.rim S hS
  · intro s
    rcases h.side with e | ⟨S, h1, h2, h3⟩
    · exact e
    · have := s S (by rw [h1, h2]; decide)
      have := h.le
      omega
theorem hng_uniq {ts : List T3} {a b : Int} {k c d : Nat} (h : Hng ts a b k c) (h' : Hng ts a b k d) : c = d := by
  have := h.le
  have := h'.le
  rcases h.side with e | ⟨S, h1, h2, h3⟩
  · rcases h'.side with e' | ⟨S, h1, h2, h3⟩
    · omega
    · have := h.rim S (by rw [h1, h2]; decide)
      omega
  · have := h'.rim S (by rw [h1, h2]; decide)
    rcases h'.side with e' | ⟨S', h1', h2', h3'⟩
    · omega
    · have := h.rim S' (by rw [h1', h2']; decide)
      omega
/-- what is pared: kept ties -/
structure Par (k : Nat) (r K : List T3) : Prop where
  sub : K.Sublist r
  rim : ∀ S, rimN K S = rimN r S ∨ k ≤ rimN K S
def Need (k : Nat) (K : List T3) (t : T3) : Prop := t.2.1 ≠ t.2.2 ∧ ¬ Strong (oth K t) t.2.1 t.2.2 k
theorem Need.mono {k : Nat} {q r : List T3} {t : T3} (s : q.Sublist r) (h : Need k r t) : Need k q t := ⟨h.1, fun z => h.2 fun S hS => Nat.le_trans (z S hS) (rimN_sub (oth_mono s t) S)⟩
/-- a needed tie lies over a side with few -/
theorem need_cut {k : Nat} {K : List T3} {t : T3} (hd : Dst K) (ht : t ∈ K) (h : Need k K t) : ∃ S : Int → Bool, S t.2.1 ≠ S t.2.2 ∧ rimN K S ≤ k := by
  apply Classical.byContradiction
  intro z
  refine h.2 fun S hS => ?_
  have e := rim_oth (S := S) hd ht
  have c : rimB S t = true := by unfold rimB; simpa using hS
  rw [if_pos c] at e
  apply Classical.byContradiction
  intro y
  exact z ⟨S, hS, by omega⟩
theorem par_refl (k : Nat) (r : List T3) : Par k r r := ⟨List.Sublist.refl r, fun _ => .inl rfl⟩
theorem oth_out {r : List T3} {t : T3} (h : ∀ s ∈ r, s.1 ≠ t.1) : oth r t = r := List.filter_eq_self.mpr fun u hu => by
  have := h u hu
  simp [this]
theorem par_oth {k : Nat} {r K : List T3} {t : T3} (hd : Dst r) (ht : t ∈ r) (h : Par k r K) (hs : t.2.1 = t.2.2 ∨ Strong (oth K t) t.2.1 t.2.2 k) : Par k r (oth K t) := by
  refine ⟨(oth_sub K t).trans h.sub, fun S => ?_⟩
  by_cases hm : t ∈ K
  · have e := rim_oth (S := S) (hd.sublist h.sub) hm
    by_cases c : rimB S t = true
    · have ne : S t.2.1 ≠ S t.2.2 := by unfold rimB at c; simpa using c
      rcases hs with z | z
      · rw [z] at ne; exact absurd rfl ne
      · exact .inr (z S ne)
    · rw [if_neg c] at e
      have e : rimN (oth K t) S = rimN K S := by omega
      rw [e]
      exact h.rim S
  · rw [oth_out fun s hs e => hm (by rw [← dst_inj hd (h.sub.subset hs) ht e]; exact hs)]
    exact h.rim S
/-- one's filter by moments gives the part -/
theorem filter_moments {K r : List T3} (hd : Dst r) (h : K.Sublist r) : r.filter (fun t => decide (t.1 ∈ K.map fun u : T3 => u.1)) = K := by
  induction h with
  | slnil => rfl
  | cons t s ih =>
    obtain ⟨h1, h2⟩ := List.pairwise_cons.mp hd
    rw [List.filter_cons_of_neg]
    · exact ih h2
    · intro z
      obtain ⟨u, hu, e⟩ := List.mem_map.mp (of_decide_eq_true z)
      exact h1 u (s.subset hu) e.symm
  | cons_cons t s ih =>
    obtain ⟨h1, h2⟩ := List.pairwise_cons.mp hd
    rw [List.filter_cons_of_pos (by rw [List.map_cons]; exact decide_eq_true List.mem_cons_self)]
    congr 1
    refine Eq.trans (List.filter_congr fun u hu => ?_) (ih h2)
    rw [List.map_cons, decide_eq_decide, List.mem_cons]
    exact ⟨fun h => h.resolve_left fun e => h1 u hu e.symm, .inr⟩

/-! ### few are kept -/
theorem split_len (S : Int → Bool) : ∀ E : List T3, E.length = (E.filter fun t => S t.2.1 && S t.2.2).length + (E.filter fun t => !S t.2.1 && !S t.2.2).length + rimN E S
  | [] => rfl
  | t :: E => by
    have ih := split_len S E
    rw [rimN_cons, List.filter_cons, List.filter_cons, List.length_cons]
    unfold rimB
    cases S t.2.1 <;> cases S t.2.2 <;> simp <;> omega
theorem filt_len (S : Int → Bool) : ∀ X : List Int, X.length = (X.filter fun p => S p).length + (X.filter fun p => !S p).length
  | [] => rfl
  | p :: X => by
    have ih := filt_len S X
    rw [List.filter_cons, List.filter_cons, List.length_cons]
    cases S p <;> simp <;> omega
theorem few_kept (k : Nat) : ∀ (m : Nat) (X : List Int) (E : List T3), X.length ≤ m → 0 < X.length → (∀ t ∈ E, t.2.1 ∈ X ∧ t.2.2 ∈ X) → (∀ t ∈ E, ∃ S : Int → Bool, S t.2.1 ≠ S t.2.2 ∧ rimN E S ≤ k) → E.length ≤ k * (X.length - 1)
  | 0, X, E, h, h0, _, _ => by omega
  | m + 1, X, [], _, _, _, _ => Nat.zero_le _
  | m + 1, X, t :: E, hm, h0, hX, hS => by
    obtain ⟨S, ne, hr⟩ := hS t List.mem_cons_self
    generalize hE : t :: E = E0 at *
    have ht : t ∈ E0 := by rw [← hE]; exact List.mem_cons_self
    have l1 : ∃ p ∈ X, S p = true := by
      cases c : S t.2.1 with
      | true => exact ⟨_, (hX t ht).1, c⟩
      | false => cases c2 : S t.2.2 with
        | true => exact ⟨_, (hX t ht).2, c2⟩
        | false => rw [c, c2] at ne; exact absurd rfl ne
    have l2 : ∃ p ∈ X, S p = false := by
      cases c : S t.2.1 with
      | false => exact ⟨_, (hX t ht).1, c⟩
      | true => cases c2 : S t.2.2 with
        | false => exact ⟨_, (hX t ht).2, c2⟩
        | true => rw [c, c2] at ne; exact absurd rfl ne
    have p1 : 0 < (X.filter fun p => S p).length := by
      obtain ⟨p, hp, e⟩ := l1
      exact List.length_pos_of_mem (List.mem_filter.mpr ⟨hp, e⟩)
    have p2 : 0 < (X.filter fun p => !S p).length := by
      obtain ⟨p, hp, e⟩ := l2
      exact List.length_pos_of_mem (List.mem_filter.mpr ⟨hp, by simp [e]⟩)
    have sx := filt_len S X
    have sE := split_len S E0
    have i1 := few_kept k m (X.filter fun p => S p) (E0.filter fun t => S t.2.1 && S t.2.2) (by omega) p1 (fun u hu => by
      obtain ⟨hu, e⟩ := List.mem_filter.mp hu
      rw [Bool.and_eq_true] at e
      exact ⟨List.mem_filter.mpr ⟨(hX u hu).1, e.1⟩, List.mem_filter.mpr ⟨(hX u hu).2, e.2⟩⟩) (fun u hu => by
      obtain ⟨S', h1, h2⟩ := hS u (List.mem_filter.mp hu).1
      exact ⟨S', h1, Nat.le_trans (rimN_sub List.filter_sublist S') h2⟩)
    have i2 := few_kept k m (X.filter fun p => !S p) (E0.filter fun t => !S t.2.1 && !S t.2.2) (by omega) p2 (fun u hu => by
      obtain ⟨hu, e⟩ := List.mem_filter.mp hu
      rw [Bool.and_eq_true] at e
      exact ⟨List.mem_filter.mpr ⟨(hX u hu).1, e.1⟩, List.mem_filter.mpr ⟨(hX u hu).2, e.2⟩⟩) (fun u hu => by
      obtain ⟨S', h1, h2⟩ := hS u (List.mem_filter.mp hu).1
      exact ⟨S', h1, Nat.le_trans (rimN_sub List.filter_sublist S') h2⟩)
    generalize (X.filter fun p => S p).length = x1 at *
    generalize (X.filter fun p => !S p).length = x2 at *
    obtain ⟨y1, rfl⟩ : ∃ y, x1 = y + 1 := ⟨x1 - 1, by omega⟩
    obtain ⟨y2, rfl⟩ : ∃ y, x2 = y + 1 := ⟨x2 - 1, by omega⟩
    have eX : X.length - 1 = y1 + y2 + 1 := by omega
    rw [eX, Nat.mul_add, Nat.mul_add]
    simp only [Nat.add_sub_cancel] at i1 i2
    omega
theorem need_few {n : Int} {k : Nat} {K : List T3} (hd : Dst K) (hr : ∀ t ∈ K, (0 ≤ t.2.1 ∧ t.2.1 < n) ∧ 0 ≤ t.2.2 ∧ t.2.2 < n) (n1 : 1 ≤ n) (hN : ∀ t ∈ K, Need k K t) : K.length ≤ k * (n.toNat - 1) := by
  have := few_kept k (pl n).length (pl n) K (Nat.le_refl _) (by rw [pl_len]; omega) (fun t ht => ⟨mem_pl.mpr (hr t ht).1, mem_pl.mpr (hr t ht).2⟩) (fun t ht => need_cut hd ht (hN t ht))
  rwa [pl_len] at this
end Flow
end T_FlowN

section T_FlowS
set_option linter.all false
set_option maxRecDepth 100000
/-! FlowS: all sides by bits. Plain. -/
namespace Flow
open PySem Sim FamA

theorem bits_of (T : Nat → Bool) : ∀ m : Nat, ∃ b : Nat, b < 2 ^ m ∧ ∀ k, k < m → b / 2 ^ k % 2 = if T k then 1 else 0
  | 0 => ⟨0, by decide, fun k h => by omega⟩
  | m + 1 => by
    obtain ⟨b, hb, h⟩ := bits_of T m
    refine ⟨b + (if T m then 2 ^ m else 0), by rw [Nat.pow_succ]; split <;> omega, fun k hk => ?_⟩
    by_cases c : k = m
    · subst c
      cases T k with
      | true =>
        simp only [if_true]
        rw [Nat.add_div_right b (Nat.two_pow_pos k), Nat.div_eq_of_lt hb]
      | false =>
        simp only [Bool.false_eq_true, if_false, Nat.add_zero]
        rw [Nat.div_eq_of_lt hb]
    · have hk' : k < m := by omega
      rw [← h k hk']
      cases T m with
      | true =>
        simp only [if_true]
        obtain ⟨d, rfl⟩ : ∃ d, m = k + 1 + d := ⟨m - (k + 1), by omega⟩
        have e : 2 ^ (k + 1 + d) = 2 ^ k * (2 * 2 ^ d) := by rw [Nat.pow_add, Nat.pow_succ, Nat.mul_assoc]
        rw [e, Nat.add_mul_div_left _ _ (Nat.two_pow_pos k), Nat.add_mod, Nat.mul_mod_right, Nat.add_zero, Nat.mod_mod]
      | false => simp
def sideOf (n bits : Int) : List Int := ((List.range (n - 1).toNat).filter fun (j : Nat) => Builtin.bitAnd (bits / 2 ^ (1 + (j : Int) - 1).toNat) 1 == 1).map fun (j : Nat) => (1 + (j : Int))
theorem side_of {n : Int} (n1 : 1 ≤ n) (S : Int → Bool) (h0 : S 0 = false) : ∃ b : Nat, b < 2 ^ (n - 1).toNat ∧ ∀ p, 0 ≤ p → p < n → (p ∈ sideOf n b ↔ S p = true) := by
  obtain ⟨b, hb, h⟩ := bits_of (fun k => S (1 + (k : Int))) (n - 1).toNat
  refine ⟨b, hb, fun p p0 pn => ?_⟩
  unfold sideOf
  rw [List.mem_map]
  constructor
  · rintro ⟨j, hj, rfl⟩
    obtain ⟨hj, e⟩ := List.mem_filter.mp hj
    have hj := List.mem_range.mp hj
    have e1 : (1 + (j : Int) - 1).toNat = j := by omega
    rw [e1, PyProof.Rows.bitAnd_m1] at e
    have e2 := h j hj
    cases c : S (1 + (j : Int)) with
    | true => rfl
    | false =>
      rw [c] at e2
      simp only [Bool.false_eq_true, if_false] at e2
      have e3 : ((b : Int) / 2 ^ j) % 2 = ((b / 2 ^ j % 2 : Nat) : Int) := by push_cast; rfl
      rw [e3, e2] at e
      exact absurd e (by decide)
  · intro hs
    have p1 : 1 ≤ p := by
      by_cases z : p = 0
      · rw [z, h0] at hs; cases hs
      · omega
    refine ⟨(p - 1).toNat, List.mem_filter.mpr ⟨List.mem_range.mpr (by omega), ?_⟩, by omega⟩
    have e1 : (1 + ((p - 1).toNat : Int) - 1).toNat = (p - 1).toNat := by omega
    have e0 : 1 + ((p - 1).toNat : Int) = p := by omega
    rw [e1, PyProof.Rows.bitAnd_m1]
    have e2 := h (p - 1).toNat (by omega)
    simp only [e0, hs, if_true] at e2
    have e3 : ((b : Int) / 2 ^ (p - 1).toNat) % 2 = ((b / 2 ^ (p - 1).toNat % 2 : Nat) : Int) := by push_cast; rfl
    rw [e3, e2]
    rfl
/-- rims look at the places alone -/
theorem rimN_congr {n : Int} {r : List T3} {S S' : Int → Bool} (hr : ∀ t ∈ r, (0 ≤ t.2.1 ∧ t.2.1 < n) ∧ 0 ≤ t.2.2 ∧ t.2.2 < n) (h : ∀ p, 0 ≤ p → p < n → S p = S' p) : rimN r S = rimN r S' := by
  unfold rimN rimB
  congr 1
  apply List.filter_congr
  intro t ht
  obtain ⟨⟨a0, a1⟩, b0, b1⟩ := hr t ht
  rw [h _ a0 a1, h _ b0 b1]
def sideB (s : List Int) : Int → Bool := fun p => decide (p ∈ s)
/-- each side has its bits, or its complement has -/
theorem some_bits {n : Int} (n1 : 1 ≤ n) (S : Int → Bool) {a b : Int} (ha : 0 ≤ a ∧ a < n) (hb : 0 ≤ b ∧ b < n) (ne : S a ≠ S b) : ∃ k : Nat, k < (2 ^ (n - 1).toNat - 1 : Nat) ∧ (∀ p, 0 ≤ p → p < n → sideB (sideOf n (1 + (k : Int))) p = (S p != S 0)) := by
  obtain ⟨m, hm, h⟩ := side_of n1 (fun p => S p != S 0) (by simp)
  have m0 : m ≠ 0 := by
    intro z
    subst z
    have key : ∀ p, 0 ≤ p → p < n → S p = S 0 := fun p p0 pn => by
      have : ¬ p ∈ sideOf n ((0 : Nat) : Int) := by
        unfold sideOf
        intro y
        obtain ⟨j, hj, _⟩ := List.mem_map.mp y
        have := (List.mem_filter.mp hj).2
        rw [PyProof.Rows.bitAnd_m1] at this
        simp at this
      have : ¬ (S p != S 0) = true := fun y => this ((h p p0 pn).mpr y)
      simpa using this
    exact ne ((key a ha.1 ha.2).trans (key b hb.1 hb.2).symm)
  refine ⟨m - 1, by omega, fun p p0 pn => ?_⟩
  have e : (1 : Int) + ((m - 1 : Nat) : Int) = (m : Int) := by omega
  rw [e]
  unfold sideB
  cases c : (S p != S 0) with
  | true => exact decide_eq_true ((h p p0 pn).mpr c)
  | false => exact decide_eq_false fun z => by rw [(h p p0 pn).mp z] at c; cases c
theorem rimN_flip (r : List T3) (S : Int → Bool) (c : Bool) : rimN r (fun p => S p != c) = rimN r S := by
  unfold rimN rimB
  congr 1
  apply List.filter_congr
  intro t _
  show ((S t.2.1 != c) != (S t.2.2 != c)) = _
  cases S t.2.1 <;> cases S t.2.2 <;> cases c <;> rfl
end Flow
end T_FlowS

section T_K40
set_option Elab.async false
set_option linter.all false
set_option maxRecDepth 100000
set_option maxHeartbeats 4000000
namespace K40
open PySem PySem.Spec L2 Sim
open PyProof.Rows hiding St
def topS (i : Nat) : Stmt := PySem.Challenge.pw_sinceply_k40_whole_pared_on_every_side.main.body.getD i (.Pass ⟨0, 0, 0, 0⟩)
abbrev st_can_go : Stmt := topS 5
theorem sc_can_go : FnScope ["flow", "tie", "here", "moment", "one", "other"] ["flow", "tie", "here"] (defScope st_can_go) := ⟨rfl, rfl, rfl, by decide +kernel, rfl, by decide +kernel, by decide +kernel⟩
abbrev st_spread : Stmt := topS 6
theorem sc_spread : FnScope ["flow", "ties", "first", "last", "came", "line", "at", "here", "tie", "there"] ["flow", "ties", "first", "last"] (defScope st_spread) := ⟨rfl, rfl, rfl, by decide +kernel, rfl, by decide +kernel, by decide +kernel⟩
abbrev st_push : Stmt := topS 7
theorem sc_push : FnScope ["flow", "came", "last", "here", "ahead", "tie"] ["flow", "came", "last"] (defScope st_push) := ⟨rfl, rfl, rfl, by decide +kernel, rfl, by decide +kernel, by decide +kernel⟩
abbrev st_next_tie : Stmt := topS 8
theorem sc_next_tie : FnScope ["flow", "ties", "here", "tie"] ["flow", "ties", "here"] (defScope st_next_tie) := ⟨rfl, rfl, rfl, by decide +kernel, rfl, by decide +kernel, by decide +kernel⟩
abbrev st_one_way : Stmt := topS 9
theorem sc_one_way : FnScope ["flow", "ties", "first", "last", "way", "here", "moment"] ["flow", "ties", "first", "last"] (defScope st_one_way) := ⟨rfl, rfl, rfl, by decide +kernel, rfl, by decide +kernel, by decide +kernel⟩
abbrev st_ways_and_side : Stmt := topS 10
theorem sc_ways_and_side : FnScope ["n", "ties", "a", "b", "most", "flow", "tie", "many", "side", "came", "place", "k"] ["n", "ties", "a", "b", "most"] (defScope st_ways_and_side) := ⟨rfl, rfl, rfl, by decide +kernel, rfl, by decide +kernel, by decide +kernel⟩
abbrev st_is_whole : Stmt := topS 12
theorem sc_is_whole : FnScope ["thing"] ["thing"] (defScope st_is_whole) := ⟨rfl, rfl, rfl, by decide +kernel, rfl, by decide +kernel, by decide +kernel⟩
abbrev st_since : Stmt := topS 13
theorem sc_since : FnScope ["record", "t", "tie"] ["record", "t"] (defScope st_since) := ⟨rfl, rfl, rfl, by decide +kernel, rfl, by decide +kernel, by decide +kernel⟩
abbrev st_joined : Stmt := topS 15
theorem sc_joined : FnScope ["marks", "a", "b", "low", "high", "mark"] ["marks", "a", "b"] (defScope st_joined) := ⟨rfl, rfl, rfl, by decide +kernel, rfl, by decide +kernel, by decide +kernel⟩
abbrev st_is_depth : Stmt := topS 18
theorem sc_is_depth : FnScope ["thing"] ["thing"] (defScope st_is_depth) := ⟨rfl, rfl, rfl, by decide +kernel, rfl, by decide +kernel, by decide +kernel⟩
abbrev st_look_at_layers : Stmt := topS 19
theorem sc_look_at_layers : FnScope ["k"] ["k"] (defScope st_look_at_layers) := ⟨rfl, rfl, rfl, by decide +kernel, rfl, by decide +kernel, by decide +kernel⟩
abbrev st_layer_for : Stmt := topS 20
theorem sc_layer_for : FnScope ["marks", "a", "b", "j", "row"] ["marks", "a", "b"] (defScope st_layer_for) := ⟨rfl, rfl, rfl, by decide +kernel, rfl, by decide +kernel, by decide +kernel⟩
abbrev st_layered : Stmt := topS 21
theorem sc_layered : FnScope ["n", "record", "k", "marks", "j", "numbers", "moment", "a", "b"] ["n", "record", "k"] (defScope st_layered) := ⟨rfl, rfl, rfl, by decide +kernel, rfl, by decide +kernel, by decide +kernel⟩
abbrev st_is_place : Stmt := topS 23
theorem sc_is_place : FnScope ["n", "thing"] ["n", "thing"] (defScope st_is_place) := ⟨rfl, rfl, rfl, by decide +kernel, rfl, by decide +kernel, by decide +kernel⟩
abbrev st_look_at_pair : Stmt := topS 24
theorem sc_look_at_pair : FnScope ["n", "a", "b"] ["n", "a", "b"] (defScope st_look_at_pair) := ⟨rfl, rfl, rfl, by decide +kernel, rfl, by decide +kernel, by decide +kernel⟩
abbrev st_told_of : Stmt := topS 25
theorem sc_told_of : FnScope ["n", "ties", "a", "b", "most", "ways", "side"] ["n", "ties", "a", "b", "most"] (defScope st_told_of) := ⟨rfl, rfl, rfl, by decide +kernel, rfl, by decide +kernel, by decide +kernel⟩
abbrev st_hang_of : Stmt := topS 26
theorem sc_hang_of : FnScope ["n", "record", "a", "b", "most", "t"] ["n", "record", "a", "b", "most", "t"] (defScope st_hang_of) := ⟨rfl, rfl, rfl, by decide +kernel, rfl, by decide +kernel, by decide +kernel⟩
abbrev st_others_of : Stmt := topS 28
theorem sc_others_of : FnScope ["record", "tie", "one"] ["record", "tie"] (defScope st_others_of) := ⟨rfl, rfl, rfl, by decide +kernel, rfl, by decide +kernel, by decide +kernel⟩
abbrev st_pared_ties : Stmt := topS 29
theorem sc_pared_ties : FnScope ["n", "record", "k", "kept", "tie", "others"] ["n", "record", "k"] (defScope st_pared_ties) := ⟨rfl, rfl, rfl, by decide +kernel, rfl, by decide +kernel, by decide +kernel⟩
abbrev st_ways_for : Stmt := topS 30
theorem sc_ways_for : FnScope ["n", "kept", "tie", "k", "turn"] ["n", "kept", "tie", "k"] (defScope st_ways_for) := ⟨rfl, rfl, rfl, by decide +kernel, rfl, by decide +kernel, by decide +kernel⟩
abbrev st_side_for : Stmt := topS 31
theorem sc_side_for : FnScope ["n", "kept", "tie", "k"] ["n", "kept", "tie", "k"] (defScope st_side_for) := ⟨rfl, rfl, rfl, by decide +kernel, rfl, by decide +kernel, by decide +kernel⟩
abbrev st_pared : Stmt := topS 32
theorem sc_pared : FnScope ["n", "record", "k", "kept", "moments", "tie", "ways"] ["n", "record", "k"] (defScope st_pared) := ⟨rfl, rfl, rfl, by decide +kernel, rfl, by decide +kernel, by decide +kernel⟩
abbrev st_l_cell_at : Stmt := topS 34
theorem sc_l_cell_at : FnScope ["script", "k"] ["script", "k"] (defScope st_l_cell_at) := ⟨rfl, rfl, rfl, by decide +kernel, rfl, by decide +kernel, by decide +kernel⟩
abbrev st_l_pool : Stmt := topS 35
theorem sc_l_pool : FnScope ["script", "at", "cell", "big", "turn", "one"] ["script", "at"] (defScope st_l_pool) := ⟨rfl, rfl, rfl, by decide +kernel, rfl, by decide +kernel, by decide +kernel⟩
abbrev st_l_take : Stmt := topS 36
theorem sc_l_take : FnScope ["pool", "many", "number"] ["pool", "many"] (defScope st_l_take) := ⟨rfl, rfl, rfl, by decide +kernel, rfl, by decide +kernel, by decide +kernel⟩
abbrev st_l_record : Stmt := topS 37
theorem sc_l_record : FnScope ["pool", "n", "most", "many", "wide", "moment", "record", "k", "a", "b"] ["pool", "n", "most"] (defScope st_l_record) := ⟨rfl, rfl, rfl, by decide +kernel, rfl, by decide +kernel, by decide +kernel⟩
abbrev st_l_rim : Stmt := topS 38
theorem sc_l_rim : FnScope ["record", "side", "moment", "a", "b"] ["record", "side"] (defScope st_l_rim) := ⟨rfl, rfl, rfl, by decide +kernel, rfl, by decide +kernel, by decide +kernel⟩
abbrev st_l_sides : Stmt := topS 39
theorem sc_l_sides : FnScope ["n", "found", "bits", "place"] ["n"] (defScope st_l_sides) := ⟨rfl, rfl, rfl, by decide +kernel, rfl, by decide +kernel, by decide +kernel⟩
abbrev st_law : Stmt := topS 40
theorem sc_law : FnScope ["script", "pool", "n", "at", "k", "record", "moments", "kept", "tie", "needed", "side", "few", "many", "moment"] ["script"] (defScope st_law) := ⟨rfl, rfl, rfl, by decide +kernel, rfl, by decide +kernel, by decide +kernel⟩
structure Tx (K : PySem.W.Frag) (mg : Str → Option Value) where
  a_can_go : Addr
  d_can_go : FuncData
  F_can_go : L2.Fun K "can_go" "can_go" st_can_go a_can_go d_can_go
  m_can_go : mg "can_go" = some (.ref a_can_go)
  b_can_go : Binds K d_can_go ["flow", "tie", "here"] []
  a_spread : Addr
  d_spread : FuncData
  F_spread : L2.Fun K "spread" "spread" st_spread a_spread d_spread
  m_spread : mg "spread" = some (.ref a_spread)
  b_spread : Binds K d_spread ["flow", "ties", "first", "last"] []
  a_push : Addr
  d_push : FuncData
  F_push : L2.Fun K "push" "push" st_push a_push d_push
  m_push : mg "push" = some (.ref a_push)
  b_push : Binds K d_push ["flow", "came", "last"] []
  a_next_tie : Addr
  d_next_tie : FuncData
  F_next_tie : L2.Fun K "next_tie" "next_tie" st_next_tie a_next_tie d_next_tie
  m_next_tie : mg "next_tie" = some (.ref a_next_tie)
  b_next_tie : Binds K d_next_tie ["flow", "ties", "here"] []
  a_one_way : Addr
  d_one_way : FuncData
  F_one_way : L2.Fun K "one_way" "one_way" st_one_way a_one_way d_one_way
  m_one_way : mg "one_way" = some (.ref a_one_way)
  b_one_way : Binds K d_one_way ["flow", "ties", "first", "last"] []
  a_ways_and_side : Addr
  d_ways_and_side : FuncData
  F_ways_and_side : L2.Fun K "ways_and_side" "ways_and_side" st_ways_and_side a_ways_and_side d_ways_and_side
  m_ways_and_side : mg "ways_and_side" = some (.ref a_ways_and_side)
  b_ways_and_side : Binds K d_ways_and_side ["n", "ties", "a", "b", "most"] []
  a_is_whole : Addr
  d_is_whole : FuncData
  F_is_whole : L2.Fun K "is_whole" "is_whole" st_is_whole a_is_whole d_is_whole
  m_is_whole : mg "is_whole" = some (.ref a_is_whole)
  b_is_whole : Binds K d_is_whole ["thing"] []
  a_since : Addr
  d_since : FuncData
  F_since : L2.Fun K "since" "since" st_since a_since d_since
  m_since : mg "since" = some (.ref a_since)
  b_since : Binds K d_since ["record", "t"] []
  a_joined : Addr
  d_joined : FuncData
  F_joined : L2.Fun K "joined" "joined" st_joined a_joined d_joined
  m_joined : mg "joined" = some (.ref a_joined)
  b_joined : Binds K d_joined ["marks", "a", "b"] []
  a_is_depth : Addr
  d_is_depth : FuncData
  F_is_depth : L2.Fun K "is_depth" "is_depth" st_is_depth a_is_depth d_is_depth
  m_is_depth : mg "is_depth" = some (.ref a_is_depth)
  b_is_depth : Binds K d_is_depth ["thing"] []
  a_look_at_layers : Addr
  d_look_at_layers : FuncData
  F_look_at_layers : L2.Fun K "look_at_layers" "look_at_layers" st_look_at_layers a_look_at_layers d_look_at_layers
  m_look_at_layers : mg "look_at_layers" = some (.ref a_look_at_layers)
  b_look_at_layers : Binds K d_look_at_layers ["k"] []
  a_layer_for : Addr
  d_layer_for : FuncData
  F_layer_for : L2.Fun K "layer_for" "layer_for" st_layer_for a_layer_for d_layer_for
  m_layer_for : mg "layer_for" = some (.ref a_layer_for)
  b_layer_for : Binds K d_layer_for ["marks", "a", "b"] []
  a_layered : Addr
  d_layered : FuncData
  F_layered : L2.Fun K "layered" "layered" st_layered a_layered d_layered
  m_layered : mg "layered" = some (.ref a_layered)
  b_layered : Binds K d_layered ["n", "record", "k"] []
  a_is_place : Addr
  d_is_place : FuncData
  F_is_place : L2.Fun K "is_place" "is_place" st_is_place a_is_place d_is_place
  m_is_place : mg "is_place" = some (.ref a_is_place)
  b_is_place : Binds K d_is_place ["n", "thing"] []
  a_look_at_pair : Addr
  d_look_at_pair : FuncData
  F_look_at_pair : L2.Fun K "look_at_pair" "look_at_pair" st_look_at_pair a_look_at_pair d_look_at_pair
  m_look_at_pair : mg "look_at_pair" = some (.ref a_look_at_pair)
  b_look_at_pair : Binds K d_look_at_pair ["n", "a", "b"] []
  a_told_of : Addr
  d_told_of : FuncData
  F_told_of : L2.Fun K "told_of" "told_of" st_told_of a_told_of d_told_of
  m_told_of : mg "told_of" = some (.ref a_told_of)
  b_told_of : Binds K d_told_of ["n", "ties", "a", "b", "most"] []
  a_hang_of : Addr
  d_hang_of : FuncData
  F_hang_of : L2.FunD K "hang_of" "hang_of" (defArgs st_hang_of) (defBody st_hang_of) (defScope st_hang_of) [V.int (0)] [] a_hang_of d_hang_of
  m_hang_of : mg "hang_of" = some (.ref a_hang_of)
  b_hang_of : Binds K d_hang_of ["n", "record", "a", "b", "most", "t"] []
  a_others_of : Addr
  d_others_of : FuncData
  F_others_of : L2.Fun K "others_of" "others_of" st_others_of a_others_of d_others_of
  m_others_of : mg "others_of" = some (.ref a_others_of)
  b_others_of : Binds K d_others_of ["record", "tie"] []
  a_pared_ties : Addr
  d_pared_ties : FuncData
  F_pared_ties : L2.Fun K "pared_ties" "pared_ties" st_pared_ties a_pared_ties d_pared_ties
  m_pared_ties : mg "pared_ties" = some (.ref a_pared_ties)
  b_pared_ties : Binds K d_pared_ties ["n", "record", "k"] []
  a_ways_for : Addr
  d_ways_for : FuncData
  F_ways_for : L2.Fun K "ways_for" "ways_for" st_ways_for a_ways_for d_ways_for
  m_ways_for : mg "ways_for" = some (.ref a_ways_for)
  b_ways_for : Binds K d_ways_for ["n", "kept", "tie", "k"] []
  a_side_for : Addr
  d_side_for : FuncData
  F_side_for : L2.Fun K "side_for" "side_for" st_side_for a_side_for d_side_for
  m_side_for : mg "side_for" = some (.ref a_side_for)
  b_side_for : Binds K d_side_for ["n", "kept", "tie", "k"] []
  a_pared : Addr
  d_pared : FuncData
  F_pared : L2.Fun K "pared" "pared" st_pared a_pared d_pared
  m_pared : mg "pared" = some (.ref a_pared)
  b_pared : Binds K d_pared ["n", "record", "k"] []
  a_l_cell_at : Addr
  d_l_cell_at : FuncData
  F_l_cell_at : L2.Fun K "_law_cell_at" "_law_cell_at" st_l_cell_at a_l_cell_at d_l_cell_at
  m_l_cell_at : mg "_law_cell_at" = some (.ref a_l_cell_at)
  b_l_cell_at : Binds K d_l_cell_at ["script", "k"] []
  a_l_pool : Addr
  d_l_pool : FuncData
  F_l_pool : L2.Fun K "_law_pool" "_law_pool" st_l_pool a_l_pool d_l_pool
  m_l_pool : mg "_law_pool" = some (.ref a_l_pool)
  b_l_pool : Binds K d_l_pool ["script", "at"] []
  a_l_take : Addr
  d_l_take : FuncData
  F_l_take : L2.Fun K "_law_take" "_law_take" st_l_take a_l_take d_l_take
  m_l_take : mg "_law_take" = some (.ref a_l_take)
  b_l_take : Binds K d_l_take ["pool", "many"] []
  a_l_record : Addr
  d_l_record : FuncData
  F_l_record : L2.Fun K "_law_record" "_law_record" st_l_record a_l_record d_l_record
  m_l_record : mg "_law_record" = some (.ref a_l_record)
  b_l_record : Binds K d_l_record ["pool", "n", "most"] []
  a_l_rim : Addr
  d_l_rim : FuncData
  F_l_rim : L2.Fun K "_law_rim" "_law_rim" st_l_rim a_l_rim d_l_rim
  m_l_rim : mg "_law_rim" = some (.ref a_l_rim)
  b_l_rim : Binds K d_l_rim ["record", "side"] []
  a_l_sides : Addr
  d_l_sides : FuncData
  F_l_sides : L2.Fun K "_law_sides" "_law_sides" st_l_sides a_l_sides d_l_sides
  m_l_sides : mg "_law_sides" = some (.ref a_l_sides)
  b_l_sides : Binds K d_l_sides ["n"] []
  a_law : Addr
  d_law : FuncData
  F_law : L2.Fun K "law" "law" st_law a_law d_law
  m_law : mg "law" = some (.ref a_law)
  b_law : Binds K d_law ["script"] []
  n_len : mg "len" = none
  n_tuple : mg "tuple" = none
  n_range : mg "range" = none
  n_isinstance : mg "isinstance" = none
  n_int : mg "int" = none
  n_bool : mg "bool" = none
  n_min : mg "min" = none
  n_max : mg "max" = none
  n_enumerate : mg "enumerate" = none
  n_list : mg "list" = none
  n_reversed : mg "reversed" = none
  n_all : mg "all" = none
  c_MOST_LAYERS : ∃ tk, mg "MOST_LAYERS" = some (.int (6) tk)
section
variable {P : Program} {w : World} {K : PySem.W.Frag} {mg : Str → Option Value} {base : Heap}
/-! ### can_go -/
abbrev g_can_go : Gs := FlowL.g_can_go
abbrev f_can_go : List Dt → O Dt := FlowL.f_can_go
theorem ok_can_go (t : Tx K mg) : FnOk P w K mg base CX0 1 t.a_can_go t.d_can_go ["flow", "tie", "here"] (spG K mg 3 f_can_go) := by
  have nd : (["flow", "tie", "here", "moment", "one", "other"] : List Str).Nodup := by decide +kernel
  exact fn_okN t.F_can_go (Δn := [.im false, .im false, .im false, .no, .no, .no]) sc_can_go rfl rfl (by decide) fun cdv A outer s H E hr => ⟨_, BD.frm [.im false, .im false, .im false, .no, .no, .no] (Δb := kd0 3 6 false) (Δc := kd0 3 6 false)
    (b_cons ((z_asg (n := 6) (x_var 1) (g_tup (m := 3) rfl (g_cons (g_name 3 nd) (g_cons (g_name 4 nd) (g_cons (g_name 5 nd) (g_nil)))) (tgCons_len (tgCons_len (tgCons_len tgNil_len))))).to [.im false, .im false, .im false, .im false, .im false, .im false])
    (b_cons (z_if (Δn := [.im false, .im false, .im false, .im false, .im false, .im false]) (c_cmp (or_eq hr) (x_var 4) (x_var 5))
    (b_one (z_ret (x_non)))
    ((b_nil).to [.im false, .im false, .im false, .im false, .im false, .im false]))
    (b_cons (z_if (Δn := [.im false, .im false, .im false, .im false, .im false, .im false]) (c_w (w_and (c_cmp (or_eq hr) (x_var 2) (x_var 4)) (w_and1 (c_cmp or_lt (x_dgetV hr (x_var 0) (x_var 3)) (x_int)))))
    (b_one (z_ret (PD.pur (x_var 5))))
    ((b_nil).to [.im false, .im false, .im false, .im false, .im false, .im false]))
    (b_cons (z_if (Δn := [.im false, .im false, .im false, .im false, .im false, .im false]) (c_w (w_and (c_cmp (or_eq hr) (x_var 2) (x_var 5)) (w_and1 (c_cmp or_gt (x_dgetV hr (x_var 0) (x_var 3)) (x_neg (x_int))))))
    (b_one (z_ret (PD.pur (x_var 4))))
    ((b_nil).to [.im false, .im false, .im false, .im false, .im false, .im false]))
    (b_one (z_ret (x_non))))))) rfl⟩
/-! ### spread -/
abbrev g_spread : Gs := FlowL.g_spread
abbrev f_spread : List Dt → O Dt := FlowL.f_spread
theorem ok_spread (t : Tx K mg) : FnOk P w K mg base CX0 2 t.a_spread t.d_spread ["flow", "ties", "first", "last"] (spG K mg 4 f_spread) := by
  have G_can_go := ok_can_go (P := P) (w := w) (base := base) t
  have nd : (["flow", "ties", "first", "last", "came", "line", "at", "here", "tie", "there"] : List Str).Nodup := by decide +kernel
  exact fn_okN t.F_spread (Δn := [.im false, .im false, .im false, .im false, .no, .no, .no, .no, .no, .no]) sc_spread rfl rfl (by decide) fun cdv A outer s H E hr => ⟨_, BD.frm [.im false, .im false, .im false, .im false, .no, .no, .no, .no, .no, .no] (Δb := kd0 4 10 false) (Δc := kd0 4 10 false)
    (b_cons ((z_setO 4 nd (x_dnew1 (x_var 2) (x_non))).to [.im false, .im false, .im false, .im false, .own .dk true, .no, .no, .no, .no, .no])
    (b_cons ((z_setO 5 nd (x_lst (AD.to true false (a_cons (x_var 2) (a_nil))))).to [.im false, .im false, .im false, .im false, .own .dk true, .own .l false, .no, .no, .no, .no])
    (b_cons ((z_set 6 nd (x_int)).to [.im false, .im false, .im false, .im false, .own .dk true, .own .l false, .im true, .no, .no, .no])
    (b_cons (z_while 1000 .never (c_w (w_and (c_cmp or_lt (x_var 6) (x_len t.n_len (AD.to false false (a_cons ((x_own 5).ov) (a_nil))))) (w_and1 (c_dnin 4 hr (x_var 3)))))
    ((b_cons ((z_set 7 nd (x_ixO (x_own 5) (x_var 6))).to [.im false, .im false, .im false, .im false, .own .dk true, .own .l false, .im true, .im false, .no, .no])
    (b_cons (z_for (n := 10) .never (i_seq (x_var 1)) (g_name 8 nd)
    ((b_cons ((z_set 9 nd (x_callN G_can_go (hr.mono (by decide)) t.m_can_go t.F_can_go.kp t.b_can_go pass0 (AD.to true false (a_cons (x_var 0) (a_cons (x_var 8) (a_cons (x_var 7) (a_nil))))))).to [.im false, .im false, .im false, .im false, .own .dk true, .own .l false, .im true, .im false, .im false, .im true])
    (b_one (z_if (Δn := [.im false, .im false, .im false, .im false, .own .dk true, .own .l false, .im true, .im false, .im false, .im true]) (c_w (w_and (c_cmp or_notN (x_var 9) (x_non)) (w_and1 (c_dnin 4 hr (x_var 9)))))
    ((b_cons ((z_dput 4 hr (PD.pur (x_tup (AD.to true false (a_cons (x_var 7) (a_cons (x_var 8) (a_nil)))))) (x_var 9)).to [.im false, .im false, .im false, .im false, .own .dk true, .own .l false, .im true, .im false, .im false, .im true])
    (b_one ((z_app 5 (x_var 9)).to [.im false, .im false, .im false, .im false, .own .dk true, .own .l false, .im true, .im false, .im false, .im true]))).to [.im false, .im false, .im false, .im false, .own .dk true, .own .l false, .im true, .im false, .im false, .im true])
    ((b_nil).to [.im false, .im false, .im false, .im false, .own .dk true, .own .l false, .im true, .im false, .im false, .im true])))).to [.im false, .im false, .im false, .im false, .own .dk true, .own .l false, .im true, .im false, .no, .no]))
    (b_one ((z_set 6 nd (x_add (x_var 6) (x_int))).to [.im false, .im false, .im false, .im false, .own .dk true, .own .l false, .im true, .im false, .no, .no])))).to [.im false, .im false, .im false, .im false, .own .dk true, .own .l false, .im true, .no, .no, .no]))
    (b_one (z_ret (x_ownD 4))))))) rfl⟩
/-! ### push -/
abbrev g_push : Gs := FlowL.g_push
abbrev f_push : List Dt → O Dt := FlowL.f_push
theorem ok_push (t : Tx K mg) : FnOk P w K mg base CX0 1 t.a_push t.d_push ["flow", "came", "last"] (spM K .ka 3 f_push) := by
  have nd : (["flow", "came", "last", "here", "ahead", "tie"] : List Str).Nodup := by decide +kernel
  exact fn_okM2 t.F_push (Δn := [.own .ka true, .im false, .im false, .im false, .no, .no]) sc_push rfl rfl (by decide) rfl rfl fun cdv A outer s H E hr => ⟨_, BD.frm [.own .ka true, .im false, .im false, .no, .no, .no] (Δb := kdM .ka 3 6) (Δc := kdM .ka 3 6)
    (BD.to [.own .ka true, .im false, .im false, .im false, .no, .no] (b_cons ((z_set 3 nd (x_var 2)).to [.own .ka true, .im false, .im false, .im false, .no, .no])
    (b_one (z_while 1000 .never (c_cmp or_notN (x_dgetV hr (x_var 1) (x_var 3)) (x_non))
    ((b_cons ((z_asg (n := 6) (x_dgetV hr (x_var 1) (x_var 3)) (g_tup (m := 2) rfl (g_cons (g_name 4 nd) (g_cons (g_name 5 nd) (g_nil))) (tgCons_len (tgCons_len tgNil_len)))).to [.own .ka true, .im false, .im false, .im false, .im false, .im false])
    (b_cons (z_if (Δn := [.own .ka true, .im false, .im false, .im false, .im false, .im false]) (c_cmp (or_eq hr) (x_var 4) (x_ix (x_var 5) (x_int)))
    ((b_one ((z_dputA 0 hr (x_add (x_dgetV hr (x_ownD 0) (x_ix (x_var 5) (x_int))) (x_int)) (x_ix (x_var 5) (x_int))).to [.own .ka true, .im false, .im false, .im false, .im false, .im false])).to [.own .ka true, .im false, .im false, .im false, .im false, .im false])
    ((b_one ((z_dputA 0 hr (x_sub (x_dgetV hr (x_ownD 0) (x_ix (x_var 5) (x_int))) (x_int)) (x_ix (x_var 5) (x_int))).to [.own .ka true, .im false, .im false, .im false, .im false, .im false])).to [.own .ka true, .im false, .im false, .im false, .im false, .im false]))
    (b_one ((z_set 3 nd (x_var 4)).to [.own .ka true, .im false, .im false, .im false, .im false, .im false])))).to [.own .ka true, .im false, .im false, .im false, .no, .no]))))) rfl⟩
/-! ### next_tie -/
abbrev g_next_tie : Gs := FlowL.g_next_tie
abbrev f_next_tie : List Dt → O Dt := FlowL.f_next_tie
theorem ok_next_tie (t : Tx K mg) : FnOk P w K mg base CX0 1 t.a_next_tie t.d_next_tie ["flow", "ties", "here"] (spG K mg 3 f_next_tie) := by
  have nd : (["flow", "ties", "here", "tie"] : List Str).Nodup := by decide +kernel
  exact fn_okN t.F_next_tie (Δn := [.im false, .im false, .im false, .no]) sc_next_tie rfl rfl (by decide) fun cdv A outer s H E hr => ⟨_, BD.frm [.im false, .im false, .im false, .no] (Δb := kd0 3 4 false) (Δc := kd0 3 4 false)
    (b_cons (z_for (n := 4) .never (i_seq (x_var 1)) (g_name 3 nd)
    ((b_cons (z_if (Δn := [.im false, .im false, .im false, .im false]) (c_w (w_and (c_cmp (or_eq hr) (x_ix (x_var 3) (x_int)) (x_var 2)) (w_and1 (c_cmp (or_eq hr) (x_dgetV hr (x_var 0) (x_ix (x_var 3) (x_int))) (x_int)))))
    (b_one (z_ret (PD.pur (x_tup (AD.to true false (a_cons (x_ix (x_var 3) (x_int)) (a_cons (x_ix (x_var 3) (x_int)) (a_nil))))))))
    ((b_nil).to [.im false, .im false, .im false, .im false]))
    (b_one (z_if (Δn := [.im false, .im false, .im false, .im false]) (c_w (w_and (c_cmp (or_eq hr) (x_ix (x_var 3) (x_int)) (x_var 2)) (w_and1 (c_cmp (or_eq hr) (x_dgetV hr (x_var 0) (x_ix (x_var 3) (x_int))) (x_neg (x_int))))))
    (b_one (z_ret (PD.pur (x_tup (AD.to true false (a_cons (x_ix (x_var 3) (x_int)) (a_cons (x_ix (x_var 3) (x_int)) (a_nil))))))))
    ((b_nil).to [.im false, .im false, .im false, .im false])))).to [.im false, .im false, .im false, .no]))
    (b_one (z_ret (x_non)))) rfl⟩
/-! ### one_way -/
abbrev g_one_way : Gs := FlowL.g_one_way
abbrev f_one_way : List Dt → O Dt := FlowL.f_one_way
theorem ok_one_way (t : Tx K mg) : FnOk P w K mg base CX0 2 t.a_one_way t.d_one_way ["flow", "ties", "first", "last"] (spML K .ka 4 f_one_way) := by
  have G_next_tie := ok_next_tie (P := P) (w := w) (base := base) t
  have nd : (["flow", "ties", "first", "last", "way", "here", "moment"] : List Str).Nodup := by decide +kernel
  exact fn_okML t.F_one_way (Δn := [.own .ka true, .im false, .im false, .im false, .no, .no, .no]) sc_one_way rfl rfl (by decide) rfl fun cdv A outer s H E hr => ⟨_, BD.frm [.own .ka true, .im false, .im false, .im false, .no, .no, .no] (Δb := kdM .ka 4 7) (Δc := kdM .ka 4 7)
    (b_cons ((z_setO 4 nd (x_lst (a_nil))).to [.own .ka true, .im false, .im false, .im false, .own .l true, .no, .no])
    (b_cons ((z_set 5 nd (x_var 2)).to [.own .ka true, .im false, .im false, .im false, .own .l true, .im false, .no])
    (b_cons (z_while 1000 .never (c_cmp (or_ne hr) (x_var 5) (x_var 3))
    ((b_cons ((z_asg (n := 7) (x_callN G_next_tie (hr.mono (by decide)) t.m_next_tie t.F_next_tie.kp t.b_next_tie pass0 (AD.to false false (a_cons (x_ownD 0) (a_cons (x_var 1) (a_cons (x_var 5) (a_nil)))))) (g_tup (m := 2) rfl (g_cons (g_name 6 nd) (g_cons (g_name 5 nd) (g_nil))) (tgCons_len (tgCons_len tgNil_len)))).to [.own .ka true, .im false, .im false, .im false, .own .l true, .im true, .im true])
    (b_cons ((z_dputA 0 hr (x_int) (x_var 6)).to [.own .ka true, .im false, .im false, .im false, .own .l true, .im true, .im true])
    (b_one ((z_app 4 (x_var 6)).to [.own .ka true, .im false, .im false, .im false, .own .l true, .im true, .im true])))).to [.own .ka true, .im false, .im false, .im false, .own .l true, .im false, .no]))
    (b_one (zx_retMO 4))))) rfl⟩
/-! ### ways_and_side -/
abbrev g_ways_and_side : Gs := FlowL.g_ways_and_side
abbrev f_ways_and_side : List Dt → O Dt := FlowL.f_ways_and_side
theorem ok_ways_and_side (t : Tx K mg) : FnOk P w K mg base CX0 3 t.a_ways_and_side t.d_ways_and_side ["n", "ties", "a", "b", "most"] (spG K mg 5 f_ways_and_side) := by
  have G_spread := ok_spread (P := P) (w := w) (base := base) t
  have G_push := ok_push (P := P) (w := w) (base := base) t
  have G_one_way := ok_one_way (P := P) (w := w) (base := base) t
  have nd : (["n", "ties", "a", "b", "most", "flow", "tie", "many", "side", "came", "place", "k"] : List Str).Nodup := by decide +kernel
  exact fn_okN t.F_ways_and_side (Δn := [.im false, .im false, .im false, .im false, .im false, .no, .no, .no, .no, .no, .no, .no]) sc_ways_and_side rfl rfl (by decide) fun cdv A outer s H E hr => ⟨_, BD.frm [.im false, .im false, .im false, .im false, .im false, .no, .no, .no, .no, .no, .no, .no] (Δb := kd0 5 12 false) (Δc := kd0 5 12 false)
    (b_cons ((z_setO 5 nd (x_dnew)).to [.im false, .im false, .im false, .im false, .im false, .own .dk true, .no, .no, .no, .no, .no, .no])
    (b_cons (z_for (n := 12) .never (i_seq (x_var 1)) (g_name 6 nd)
    ((b_one ((z_dput 5 hr (x_int) (x_ix (x_var 6) (x_int))).to [.im false, .im false, .im false, .im false, .im false, .own .dk true, .im false, .no, .no, .no, .no, .no])).to [.im false, .im false, .im false, .im false, .im false, .own .dk true, .no, .no, .no, .no, .no, .no]))
    (b_cons ((z_set 7 nd (x_int)).to [.im false, .im false, .im false, .im false, .im false, .own .dk true, .no, .im true, .no, .no, .no, .no])
    (b_cons ((z_set 8 nd (x_non)).to [.im false, .im false, .im false, .im false, .im false, .own .dk true, .no, .im true, .im true, .no, .no, .no])
    (b_cons (z_while 1000 .never (c_w (w_and (c_cmp or_lt (x_var 7) (x_var 4)) (w_and1 (c_cmp or_isN (x_var 8) (x_non)))))
    ((b_cons ((z_set 9 nd (x_callN G_spread (hr.mono (by decide)) t.m_spread t.F_spread.kp t.b_spread pass0 (AD.to false false (a_cons (x_ownD 5) (a_cons (x_var 1) (a_cons (x_var 2) (a_cons (x_var 3) (a_nil)))))))).to [.im false, .im false, .im false, .im false, .im false, .own .dk true, .no, .im true, .im true, .im true, .no, .no])
    (b_one (z_if (Δn := [.im false, .im false, .im false, .im false, .im false, .own .dk true, .no, .im true, .im true, .im true, .no, .no]) (c_dinV hr (x_var 3) (x_var 9))
    ((b_cons ((zx_expr (xd_callM 5 G_push (hr.mono (by decide)) t.m_push t.F_push.kp t.b_push pass0 (xb_a (XAD.to true false (xa_cons (xd_of (x_var 9)) (xa_cons (xd_of (x_var 3)) (xa_nil))))))).to [.im false, .im false, .im false, .im false, .im false, .own .dk true, .no, .im true, .im true, .im true, .no, .no])
    (b_one ((z_set 7 nd (x_add (x_var 7) (x_int))).to [.im false, .im false, .im false, .im false, .im false, .own .dk true, .no, .im true, .im true, .im true, .no, .no]))).to [.im false, .im false, .im false, .im false, .im false, .own .dk true, .no, .im true, .im true, .im true, .no, .no])
    ((b_one ((z_set 8 nd (x_tuple t.n_tuple (AD.to true true (a_cons ((x_lc (n := 12) [("place", 10)] nd (i_rng1 t.n_range (AD.to true false (a_cons (x_var 0) (a_nil)))) (blk_fx (N := ["n", "ties", "a", "b", "most", "flow", "tie", "many", "side", "came", "place", "k"]) (sc := defScope st_ways_and_side) (by decide +kernel)) (fun _ _ _ _ _ => g_name 10 nd) (fun _ _ _ _ _ => t_one (c_dinV hr (x_var 10) (x_var 9))) (fun _ _ _ _ _ => x_var 10)).nv) (a_nil))))).to [.im false, .im false, .im false, .im false, .im false, .own .dk true, .no, .im true, .im true, .im true, .no, .no])).to [.im false, .im false, .im false, .im false, .im false, .own .dk true, .no, .im true, .im true, .im true, .no, .no])))).to [.im false, .im false, .im false, .im false, .im false, .own .dk true, .no, .im true, .im true, .no, .no, .no]))
    (b_one (zx_ret (xd_tup (XAD.to true true (xa_cons ((xd_lc (n := 12) [("k", 11)] nd (i_rng1 t.n_range (AD.to true true (a_cons (x_var 7) (a_nil)))) (blk_fx (N := ["n", "ties", "a", "b", "most", "flow", "tie", "many", "side", "came", "place", "k"]) (sc := defScope st_ways_and_side) (by decide +kernel)) (fun _ _ _ _ _ => g_name 11 nd) (fun _ _ _ _ _ => t_nil) (fun _ _ _ _ _ => (xd_callML 5 G_one_way (hr.mono (by decide)) t.m_one_way t.F_one_way.kp t.b_one_way pass0 (xb_a (XAD.to true false (xa_cons (xd_of (x_var 1)) (xa_cons (xd_of (x_var 2)) (xa_cons (xd_of (x_var 3)) (xa_nil))))))).nv)).nv) (xa_cons (xd_of (x_var 8)) (xa_nil)))))))))))) rfl⟩
/-! ### is_whole -/
abbrev g_is_whole : Gs := FamL.g_is_whole
abbrev f_is_whole : List Dt → O Dt := FamL.f_is_whole
theorem ok_is_whole (t : Tx K mg) : FnOk P w K mg base CX0 1 t.a_is_whole t.d_is_whole ["thing"] (spG K mg 1 f_is_whole) := by
  have nd : (["thing"] : List Str).Nodup := by decide +kernel
  exact fn_okN t.F_is_whole (Δn := [.im false]) sc_is_whole rfl rfl (by decide) fun cdv A outer s H E hr => ⟨_, BD.frm [.im false] (Δb := kd0 1 1 false) (Δc := kd0 1 1 false)
    (b_one (z_ret (x_and (x_isa .int t.n_isinstance t.n_int (x_var 0)) (x_one (x_not (x_isa .bool t.n_isinstance t.n_bool (x_var 0))))))) rfl⟩
/-! ### since -/
def g_since : Gs := gRet (gPurN (gLc (gSeq (gVar 0)) (tgN 2) (gTest (gOp hGe (gOp hIx (gVar 2) (gC (.int (0)))) (gVar 1))) (gVar 2)))
def f_since : List Dt → O Dt := fnL 3 g_since
theorem ok_since (t : Tx K mg) : FnOk P w K mg base CX0 1 t.a_since t.d_since ["record", "t"] (spL K mg 2 f_since) := by
  have nd : (["record", "t", "tie"] : List Str).Nodup := by decide +kernel
  exact fn_okL t.F_since (Δn := [.im false, .im false, .no]) sc_since rfl rfl (by decide) fun cdv A outer s H E hr => ⟨_, BD.frm [.im false, .im false, .no] (Δb := kd0 2 3 false) (Δc := kd0 2 3 false)
    (b_one (z_retL (PD.purN (x_lc (n := 3) [("tie", 2)] nd (i_seq (x_var 0)) (blk_fx (N := ["record", "t", "tie"]) (sc := defScope st_since) (by decide +kernel)) (fun _ _ _ _ _ => g_name 2 nd) (fun _ _ _ _ _ => t_one (c_cmp or_ge (x_ix (x_var 2) (x_int)) (x_var 1))) (fun _ _ _ _ _ => x_var 2))))) rfl⟩
/-! ### joined -/
abbrev g_joined : Gs := FamL.g_joined
abbrev f_joined : List Dt → O Dt := FamL.f_joined
theorem ok_joined (t : Tx K mg) : FnOk P w K mg base CX0 1 t.a_joined t.d_joined ["marks", "a", "b"] (spL K mg 3 f_joined) := by
  have nd : (["marks", "a", "b", "low", "high", "mark"] : List Str).Nodup := by decide +kernel
  exact fn_okL t.F_joined (Δn := [.im false, .im false, .im false, .no, .no, .no]) sc_joined rfl rfl (by decide) fun cdv A outer s H E hr => ⟨_, BD.frm [.im false, .im false, .im false, .no, .no, .no] (Δb := kd0 3 6 false) (Δc := kd0 3 6 false)
    (b_cons ((z_set 3 nd (x_min2 t.n_min (AD.to true false (a_cons (x_ix (x_var 0) (x_var 1)) (a_cons (x_ix (x_var 0) (x_var 2)) (a_nil)))))).to [.im false, .im false, .im false, .im true, .no, .no])
    (b_cons ((z_set 4 nd (x_max2 t.n_max (AD.to true false (a_cons (x_ix (x_var 0) (x_var 1)) (a_cons (x_ix (x_var 0) (x_var 2)) (a_nil)))))).to [.im false, .im false, .im false, .im true, .im true, .no])
    (b_one (z_retL (PD.purN (x_lc (n := 6) [("mark", 5)] nd (i_seq (x_var 0)) (blk_fx (N := ["marks", "a", "b", "low", "high", "mark"]) (sc := defScope st_joined) (by decide +kernel)) (fun _ _ _ _ _ => g_name 5 nd) (fun _ _ _ _ _ => t_nil) (fun _ _ _ _ _ => x_ifE (c_cmp (or_eq hr) (x_var 5) (x_var 4)) ((x_var 3).wk (av' := true) (fr' := false)) (x_var 5)))))))) rfl⟩
/-! ### is_depth -/
abbrev g_is_depth : Gs := FamL.g_is_depth
abbrev f_is_depth : List Dt → O Dt := FamL.f_is_depth
theorem ok_is_depth (t : Tx K mg) : FnOk P w K mg base CX0 2 t.a_is_depth t.d_is_depth ["thing"] (spG K mg 1 f_is_depth) := by
  obtain ⟨_, h_MOST_LAYERS⟩ := t.c_MOST_LAYERS
  have G_is_whole := ok_is_whole (P := P) (w := w) (base := base) t
  have nd : (["thing"] : List Str).Nodup := by decide +kernel
  exact fn_okN t.F_is_depth (Δn := [.im false]) sc_is_depth rfl rfl (by decide) fun cdv A outer s H E hr => ⟨_, BD.frm [.im false] (Δb := kd0 1 1 false) (Δc := kd0 1 1 false)
    (b_one (z_ret (x_and (x_callN G_is_whole (hr.mono (by decide)) t.m_is_whole t.F_is_whole.kp t.b_is_whole pass0 (AD.to true false (a_cons (x_var 0) (a_nil)))) (x_one (x_chain or_le or_le (x_int) (x_var 0) (x_glob (v := .int (6)) h_MOST_LAYERS ⟨_, rfl⟩ (.int _))))))) rfl⟩
/-! ### look_at_layers -/
abbrev g_look_at_layers : Gs := FamL.g_look_at_layers
abbrev f_look_at_layers : List Dt → O Dt := FamL.f_look_at_layers
theorem ok_look_at_layers (t : Tx K mg) : FnOk P w K mg base CX0 3 t.a_look_at_layers t.d_look_at_layers ["k"] (spG K mg 1 f_look_at_layers) := by
  have G_is_depth := ok_is_depth (P := P) (w := w) (base := base) t
  have nd : (["k"] : List Str).Nodup := by decide +kernel
  exact fn_okN t.F_look_at_layers (Δn := [.im false]) sc_look_at_layers rfl rfl (by decide) fun cdv A outer s H E hr => ⟨_, BD.frm [.im false] (Δb := kd0 1 1 false) (Δc := kd0 1 1 false)
    (BD.to [.im false] (b_one (z_if (Δn := [.im false]) (c_not (c_val (x_callN G_is_depth (hr.mono (by decide)) t.m_is_depth t.F_is_depth.kp t.b_is_depth pass0 (AD.to true false (a_cons (x_var 0) (a_nil))))))
    (b_one (z_never))
    ((b_nil).to [.im false])))) rfl⟩
/-! ### layer_for -/
abbrev g_layer_for : Gs := FamL.g_layer_for
abbrev f_layer_for : List Dt → O Dt := FamL.f_layer_for
theorem ok_layer_for (t : Tx K mg) : FnOk P w K mg base CX0 1 t.a_layer_for t.d_layer_for ["marks", "a", "b"] (spG K mg 3 f_layer_for) := by
  have nd : (["marks", "a", "b", "j", "row"] : List Str).Nodup := by decide +kernel
  exact fn_okN t.F_layer_for (Δn := [.im false, .im false, .im false, .no, .no]) sc_layer_for rfl rfl (by decide) fun cdv A outer s H E hr => ⟨_, BD.frm [.im false, .im false, .im false, .no, .no] (Δb := kd0 3 5 false) (Δc := kd0 3 5 false)
    (b_cons (z_for (n := 5) .never (i_enum t.n_enumerate (AD.to true false (a_cons (x_var 0) (a_nil)))) (g_tup (m := 2) rfl (g_cons (g_name 3 nd) (g_cons (g_name 4 nd) (g_nil))) (tgCons_len (tgCons_len tgNil_len)))
    ((b_one (z_if (Δn := [.im false, .im false, .im false, .im false, .im false]) (c_cmp (or_ne hr) (x_ix (x_var 4) (x_var 1)) (x_ix (x_var 4) (x_var 2)))
    (b_one (z_ret (x_add (x_var 3) (x_int))))
    ((b_nil).to [.im false, .im false, .im false, .im false, .im false]))).to [.im false, .im false, .im false, .no, .no]))
    (b_one (z_ret (x_int)))) rfl⟩
/-! ### layered -/
abbrev g_layered : Gs := FamL.g_layered
abbrev f_layered : List Dt → O Dt := FamL.f_layered
theorem ok_layered (t : Tx K mg) : FnOk P w K mg base CX0 4 t.a_layered t.d_layered ["n", "record", "k"] (spL K mg 3 f_layered) := by
  have G_look_at_layers := ok_look_at_layers (P := P) (w := w) (base := base) t
  have G_layer_for := ok_layer_for (P := P) (w := w) (base := base) t
  have G_joined := ok_joined (P := P) (w := w) (base := base) t
  have nd : (["n", "record", "k", "marks", "j", "numbers", "moment", "a", "b"] : List Str).Nodup := by decide +kernel
  exact fn_okL t.F_layered (Δn := [.im false, .im false, .im false, .no, .no, .no, .no, .no, .no]) sc_layered rfl rfl (by decide) fun cdv A outer s H E hr => ⟨_, BD.frm [.im false, .im false, .im false, .no, .no, .no, .no, .no, .no] (Δb := kd0 3 9 false) (Δc := kd0 3 9 false)
    (b_cons ((z_expr (x_callN G_look_at_layers (hr.mono (by decide)) t.m_look_at_layers t.F_look_at_layers.kp t.b_look_at_layers pass0 (AD.to true false (a_cons (x_var 2) (a_nil))))).to [.im false, .im false, .im false, .no, .no, .no, .no, .no, .no])
    (b_cons ((z_setLc 3 (n := 9) [("j", 4)] nd (i_rng1 t.n_range (AD.to true false (a_cons (x_var 2) (a_nil)))) (blk_fx (N := ["n", "record", "k", "marks", "j", "numbers", "moment", "a", "b"]) (sc := defScope st_layered) (by decide +kernel)) (fun _ _ _ _ _ => g_name 4 nd) (fun _ _ _ _ _ => t_nil) (fun _ _ _ _ _ => (x_lrng1 t.n_list t.n_range (x_var 0)).nv) (sw_true rfl rfl rfl (by decide +kernel))).to [.im false, .im false, .im false, .own .l true, .no, .no, .no, .no, .no])
    (b_cons ((z_setO 5 nd (x_lst (a_nil))).to [.im false, .im false, .im false, .own .l true, .no, .own .l true, .no, .no, .no])
    (b_cons (z_for (n := 9) .never (i_rev t.n_reversed (AD.to true false (a_cons (x_var 1) (a_nil)))) (g_tup (m := 3) rfl (g_cons (g_name 6 nd) (g_cons (g_name 7 nd) (g_cons (g_name 8 nd) (g_nil)))) (tgCons_len (tgCons_len (tgCons_len tgNil_len))))
    ((b_cons ((z_set 4 nd (x_callN G_layer_for (hr.mono (by decide)) t.m_layer_for t.F_layer_for.kp t.b_layer_for pass0 (AD.to false false (a_cons ((x_own 3).ov) (a_cons (x_var 7) (a_cons (x_var 8) (a_nil))))))).to [.im false, .im false, .im false, .own .l true, .im true, .own .l true, .im false, .im false, .im false])
    (b_cons (z_if (Δn := [.im false, .im false, .im false, .own .l true, .im true, .own .l true, .im false, .im false, .im false]) (c_cmp or_gt (x_var 4) (x_int))
    ((b_one ((z_setI 3 ((x_callL G_joined (hr.mono (by decide)) t.m_joined t.F_joined.kp t.b_joined pass0 (AD.to true false (a_cons (x_ixO (x_own 3) (x_sub (x_var 4) (x_int))) (a_cons (x_var 7) (a_cons (x_var 8) (a_nil)))))).nv) (x_sub (x_var 4) (x_int))).to [.im false, .im false, .im false, .own .l true, .im true, .own .l true, .im false, .im false, .im false])).to [.im false, .im false, .im false, .own .l true, .im true, .own .l true, .im false, .im false, .im false])
    ((b_nil).to [.im false, .im false, .im false, .own .l true, .im true, .own .l true, .im false, .im false, .im false]))
    (b_one ((z_app 5 (x_var 4)).to [.im false, .im false, .im false, .own .l true, .im true, .own .l true, .im false, .im false, .im false])))).to [.im false, .im false, .im false, .own .l true, .no, .own .l true, .no, .no, .no]))
    (b_one (z_retL (x_lrevO t.n_list t.n_reversed (x_own 5)))))))) rfl⟩
/-! ### is_place -/
def g_is_place : Gs := gRet (gAndV (gUn (hIsa .int) (gVar 1)) (gAndV (gNotV (gUn (hIsa .bool) (gVar 1))) (gChain hLe hLt (gC (.int (0))) (gVar 1) (gVar 0))))
def f_is_place : List Dt → O Dt := fnN 2 g_is_place
theorem ok_is_place (t : Tx K mg) : FnOk P w K mg base CX0 1 t.a_is_place t.d_is_place ["n", "thing"] (spG K mg 2 f_is_place) := by
  have nd : (["n", "thing"] : List Str).Nodup := by decide +kernel
  exact fn_okN t.F_is_place (Δn := [.im false, .im false]) sc_is_place rfl rfl (by decide) fun cdv A outer s H E hr => ⟨_, BD.frm [.im false, .im false] (Δb := kd0 2 2 false) (Δc := kd0 2 2 false)
    (b_one (z_ret (x_and (x_isa .int t.n_isinstance t.n_int (x_var 1)) (x_and (x_not (x_isa .bool t.n_isinstance t.n_bool (x_var 1))) (x_one (x_chain or_le or_lt (x_int) (x_var 1) (x_var 0))))))) rfl⟩
/-! ### look_at_pair -/
def g_look_at_pair : Gs := gIfS (gOr (gNot (gTest (gCallN 2 f_is_place (gCons (gVar 0) (gCons (gVar 1) (gNil)))))) (gOr (gNot (gTest (gCallN 2 f_is_place (gCons (gVar 0) (gCons (gVar 2) (gNil)))))) (gTest (gOp hEq (gVar 1) (gVar 2))))) (gBad) (gNext)
def f_look_at_pair : List Dt → O Dt := fnN 3 g_look_at_pair
theorem ok_look_at_pair (t : Tx K mg) : FnOk P w K mg base CX0 2 t.a_look_at_pair t.d_look_at_pair ["n", "a", "b"] (spG K mg 3 f_look_at_pair) := by
  have G_is_place := ok_is_place (P := P) (w := w) (base := base) t
  have nd : (["n", "a", "b"] : List Str).Nodup := by decide +kernel
  exact fn_okN t.F_look_at_pair (Δn := [.im false, .im false, .im false]) sc_look_at_pair rfl rfl (by decide) fun cdv A outer s H E hr => ⟨_, BD.frm [.im false, .im false, .im false] (Δb := kd0 3 3 false) (Δc := kd0 3 3 false)
    (BD.to [.im false, .im false, .im false] (b_one (z_if (Δn := [.im false, .im false, .im false]) (c_w (w_or (c_not (c_val (x_callN G_is_place (hr.mono (by decide)) t.m_is_place t.F_is_place.kp t.b_is_place pass0 (AD.to true false (a_cons (x_var 0) (a_cons (x_var 1) (a_nil))))))) (w_or (c_not (c_val (x_callN G_is_place (hr.mono (by decide)) t.m_is_place t.F_is_place.kp t.b_is_place pass0 (AD.to true false (a_cons (x_var 0) (a_cons (x_var 2) (a_nil))))))) (w_or1 (c_cmp (or_eq hr) (x_var 1) (x_var 2))))))
    (b_one (z_never))
    ((b_nil).to [.im false, .im false, .im false])))) rfl⟩
/-! ### told_of -/
def g_told_of : Gs := gSeqS (gAsg (gCallN 5 f_ways_and_side (gCons (gVar 0) (gCons (gVar 1) (gCons (gVar 2) (gCons (gVar 3) (gCons (gVar 4) (gNil))))))) (tgT (tgCons (tgN 5) (tgCons (tgN 6) (tgNil))))) (gRet (gTup (gCons (gCB hLen (gCons (gVar 5) (gNil))) (gCons (gVar 5) (gCons (gVar 6) (gNil))))))
def f_told_of : List Dt → O Dt := fnN 7 g_told_of
theorem ok_told_of (t : Tx K mg) : FnOk P w K mg base CX0 4 t.a_told_of t.d_told_of ["n", "ties", "a", "b", "most"] (spG K mg 5 f_told_of) := by
  have G_ways_and_side := ok_ways_and_side (P := P) (w := w) (base := base) t
  have nd : (["n", "ties", "a", "b", "most", "ways", "side"] : List Str).Nodup := by decide +kernel
  exact fn_okN t.F_told_of (Δn := [.im false, .im false, .im false, .im false, .im false, .no, .no]) sc_told_of rfl rfl (by decide) fun cdv A outer s H E hr => ⟨_, BD.frm [.im false, .im false, .im false, .im false, .im false, .no, .no] (Δb := kd0 5 7 false) (Δc := kd0 5 7 false)
    (b_cons ((z_asg (n := 7) (x_callN G_ways_and_side (hr.mono (by decide)) t.m_ways_and_side t.F_ways_and_side.kp t.b_ways_and_side pass0 (AD.to true false (a_cons (x_var 0) (a_cons (x_var 1) (a_cons (x_var 2) (a_cons (x_var 3) (a_cons (x_var 4) (a_nil)))))))) (g_tup (m := 2) rfl (g_cons (g_name 5 nd) (g_cons (g_name 6 nd) (g_nil))) (tgCons_len (tgCons_len tgNil_len)))).to [.im false, .im false, .im false, .im false, .im false, .im true, .im true])
    (b_one (z_ret (x_tup (AD.to true true (a_cons (x_len t.n_len (AD.to true true (a_cons (x_var 5) (a_nil)))) (a_cons (x_var 5) (a_cons (x_var 6) (a_nil))))))))) rfl⟩
/-! ### hang_of -/
def g_hang_of : Gs := gSeqS (gDrop (gCallN 3 f_look_at_pair (gCons (gVar 0) (gCons (gVar 2) (gCons (gVar 3) (gNil)))))) (gRet (gCallN 5 f_told_of (gCons (gVar 0) (gCons (gCallN 2 f_since (gCons (gVar 1) (gCons (gVar 5) (gNil)))) (gCons (gVar 2) (gCons (gVar 3) (gCons (gVar 4) (gNil))))))))
def f_hang_of : List Dt → O Dt := fnN 6 g_hang_of
theorem ok_hang_of (t : Tx K mg) : FnOk P w K mg base CX0 5 t.a_hang_of t.d_hang_of ["n", "record", "a", "b", "most", "t"] (spG K mg 6 f_hang_of) := by
  have G_look_at_pair := ok_look_at_pair (P := P) (w := w) (base := base) t
  have G_told_of := ok_told_of (P := P) (w := w) (base := base) t
  have G_since := ok_since (P := P) (w := w) (base := base) t
  have nd : (["n", "record", "a", "b", "most", "t"] : List Str).Nodup := by decide +kernel
  exact fn_okND t.F_hang_of (Δn := [.im false, .im false, .im false, .im false, .im false, .im false]) sc_hang_of rfl rfl (by decide) fun cdv A outer s H E hr => ⟨_, BD.frm [.im false, .im false, .im false, .im false, .im false, .im false] (Δb := kd0 6 6 false) (Δc := kd0 6 6 false)
    (b_cons ((z_expr (x_callN G_look_at_pair (hr.mono (by decide)) t.m_look_at_pair t.F_look_at_pair.kp t.b_look_at_pair pass0 (AD.to true false (a_cons (x_var 0) (a_cons (x_var 2) (a_cons (x_var 3) (a_nil))))))).to [.im false, .im false, .im false, .im false, .im false, .im false])
    (b_one (z_ret (x_callN G_told_of (hr.mono (by decide)) t.m_told_of t.F_told_of.kp t.b_told_of pass0 (AD.to true false (a_cons (x_var 0) (a_cons ((x_callL G_since (hr.mono (by decide)) t.m_since t.F_since.kp t.b_since pass0 (AD.to true false (a_cons (x_var 1) (a_cons (x_var 5) (a_nil))))).nv) (a_cons (x_var 2) (a_cons (x_var 3) (a_cons (x_var 4) (a_nil))))))))))) rfl⟩
theorem bD_hang_of (t : Tx K mg) : ∃ ds, Vals [V.int (0)] ds ∧ Binds K t.d_hang_of ["n", "record", "a", "b", "most", "t"] ds := FunD.binds1 t.F_hang_of 5 0 (fun z => nomatch z) rfl fun T kV doc pm an cdv ct us its h1 h2 => match us, h1, its, h2 with | [_, _, _, _, _], _, [_], _ => ⟨_, rfl, rfl⟩
theorem bK_hang_of (t : Tx K mg) : KBn K t.d_hang_of ["n", "record", "a", "b", "most", "t"] 5 ["t"] (fun us ws => us ++ ws) (fun vs zs => vs ++ zs) := kbn2 t.F_hang_of 5 ["t"] (fun z => nomatch z) fun T kV doc pm an cdv ct us its ws h1 h2 h3 => match us, h1, its, h2, ws, h3 with | [_, _, _, _, _], _, [_], _, [_], _ => ⟨_, rfl, rfl⟩
/-! ### others_of -/
def g_others_of : Gs := gRet (gPurN (gLc (gSeq (gVar 0)) (tgN 2) (gTest (gOp hNe (gOp hIx (gVar 2) (gC (.int (0)))) (gOp hIx (gVar 1) (gC (.int (0)))))) (gVar 2)))
def f_others_of : List Dt → O Dt := fnL 3 g_others_of
theorem ok_others_of (t : Tx K mg) : FnOk P w K mg base CX0 1 t.a_others_of t.d_others_of ["record", "tie"] (spL K mg 2 f_others_of) := by
  have nd : (["record", "tie", "one"] : List Str).Nodup := by decide +kernel
  exact fn_okL t.F_others_of (Δn := [.im false, .im false, .no]) sc_others_of rfl rfl (by decide) fun cdv A outer s H E hr => ⟨_, BD.frm [.im false, .im false, .no] (Δb := kd0 2 3 false) (Δc := kd0 2 3 false)
    (b_one (z_retL (PD.purN (x_lc (n := 3) [("one", 2)] nd (i_seq (x_var 0)) (blk_fx (N := ["record", "tie", "one"]) (sc := defScope st_others_of) (by decide +kernel)) (fun _ _ _ _ _ => g_name 2 nd) (fun _ _ _ _ _ => t_one (c_cmp (or_ne hr) (x_ix (x_var 2) (x_int)) (x_ix (x_var 1) (x_int)))) (fun _ _ _ _ _ => x_var 2))))) rfl⟩
/-! ### pared_ties -/
def g_pared_ties_L1 : Gs := gSeqS (gSet 5 (gCallN 2 f_others_of (gCons (gVar 3) (gCons (gVar 4) (gNil))))) (gIfS (gOr (gTest (gOp hEq (gOp hIx (gVar 4) (gC (.int (1)))) (gOp hIx (gVar 4) (gC (.int (2)))))) (gTest (gOp hEq (gOp hIx (gCallDf 6 f_hang_of [.int (0)] (gCons (gVar 0) (gCons (gVar 5) (gCons (gOp hIx (gVar 4) (gC (.int (1)))) (gCons (gOp hIx (gVar 4) (gC (.int (2)))) (gCons (gVar 2) (gNil))))))) (gC (.int (0)))) (gVar 2)))) (gSet 3 (gVar 5)) (gNext))
def g_pared_ties : Gs := gSeqS (gSet 3 (gPurN (gCB (one hListOf) (gCons (gVar 1) gNil)))) (gSeqS (gFor (gSeq (gVar 1)) (tgN 4) g_pared_ties_L1) (gRet (gVar 3)))
def f_pared_ties : List Dt → O Dt := fnN 6 g_pared_ties
theorem ok_pared_ties (t : Tx K mg) : FnOk P w K mg base CX0 6 t.a_pared_ties t.d_pared_ties ["n", "record", "k"] (spG K mg 3 f_pared_ties) := by
  have G_others_of := ok_others_of (P := P) (w := w) (base := base) t
  have G_hang_of := ok_hang_of (P := P) (w := w) (base := base) t
  have nd : (["n", "record", "k", "kept", "tie", "others"] : List Str).Nodup := by decide +kernel
  exact fn_okN t.F_pared_ties (Δn := [.im false, .im false, .im false, .no, .no, .no]) sc_pared_ties rfl rfl (by decide) fun cdv A outer s H E hr => ⟨_, BD.frm [.im false, .im false, .im false, .no, .no, .no] (Δb := kd0 3 6 false) (Δc := kd0 3 6 false)
    (b_cons ((z_set 3 nd ((PD.purN (x_list t.n_list (a_cons (x_var 1) a_nil))).nv)).to [.im false, .im false, .im false, .im true, .no, .no])
    (b_cons (z_for (n := 6) .never (i_seq (x_var 1)) (g_name 4 nd)
    ((b_cons ((z_set 5 nd ((x_callL G_others_of (hr.mono (by decide)) t.m_others_of t.F_others_of.kp t.b_others_of pass0 (AD.to true false (a_cons (x_var 3) (a_cons (x_var 4) (a_nil))))).nv)).to [.im false, .im false, .im false, .im true, .im false, .im true])
    (b_one (z_if (Δn := [.im false, .im false, .im false, .im true, .im false, .im true]) (c_w (w_or (c_cmp (or_eq hr) (x_ix (x_var 4) (x_int)) (x_ix (x_var 4) (x_int))) (w_or1 (c_cmp (or_eq hr) (x_ix (x_callNDf G_hang_of (hr.mono (by decide)) t.m_hang_of t.F_hang_of.kp (bD_hang_of t) pass0 (AD.to true false (a_cons (x_var 0) (a_cons (x_var 5) (a_cons (x_ix (x_var 4) (x_int)) (a_cons (x_ix (x_var 4) (x_int)) (a_cons (x_var 2) (a_nil)))))))) (x_int)) (x_var 2)))))
    ((b_one ((z_set 3 nd (x_var 5)).to [.im false, .im false, .im false, .im true, .im false, .im true])).to [.im false, .im false, .im false, .im true, .im false, .im true])
    ((b_nil).to [.im false, .im false, .im false, .im true, .im false, .im true])))).to [.im false, .im false, .im false, .im true, .no, .no]))
    (b_one (z_ret (x_var 3))))) rfl⟩
/-! ### ways_for -/
def g_ways_for : Gs := gSeqS (gIfS (gTest (gOp hEq (gOp hIx (gVar 2) (gC (.int (1)))) (gOp hIx (gVar 2) (gC (.int (2)))))) (gRet (gLc (gRng1 (gCons (gVar 3) (gNil))) (tgN 4) (gYes) (gLst (gNil)))) (gNext)) (gRet (gOp hIx (gCallDf 6 f_hang_of [.int (0)] (gCons (gVar 0) (gCons (gVar 1) (gCons (gOp hIx (gVar 2) (gC (.int (1)))) (gCons (gOp hIx (gVar 2) (gC (.int (2)))) (gCons (gVar 3) (gNil))))))) (gC (.int (1)))))
def f_ways_for : List Dt → O Dt := fnN 5 g_ways_for
theorem ok_ways_for (t : Tx K mg) : FnOk P w K mg base CX0 6 t.a_ways_for t.d_ways_for ["n", "kept", "tie", "k"] (spG K mg 4 f_ways_for) := by
  have G_hang_of := ok_hang_of (P := P) (w := w) (base := base) t
  have nd : (["n", "kept", "tie", "k", "turn"] : List Str).Nodup := by decide +kernel
  exact fn_okN t.F_ways_for (Δn := [.im false, .im false, .im false, .im false, .no]) sc_ways_for rfl rfl (by decide) fun cdv A outer s H E hr => ⟨_, BD.frm [.im false, .im false, .im false, .im false, .no] (Δb := kd0 4 5 false) (Δc := kd0 4 5 false)
    (b_cons (z_if (Δn := [.im false, .im false, .im false, .im false, .no]) (c_cmp (or_eq hr) (x_ix (x_var 2) (x_int)) (x_ix (x_var 2) (x_int)))
    (b_one (z_ret ((x_lc (n := 5) [("turn", 4)] nd (i_rng1 t.n_range (AD.to true false (a_cons (x_var 3) (a_nil)))) (blk_fx (N := ["n", "kept", "tie", "k", "turn"]) (sc := defScope st_ways_for) (by decide +kernel)) (fun _ _ _ _ _ => g_name 4 nd) (fun _ _ _ _ _ => t_nil) (fun _ _ _ _ _ => (x_lst (a_nil)).nv)).nv)))
    ((b_nil).to [.im false, .im false, .im false, .im false, .no]))
    (b_one (z_ret (x_ix (x_callNDf G_hang_of (hr.mono (by decide)) t.m_hang_of t.F_hang_of.kp (bD_hang_of t) pass0 (AD.to true false (a_cons (x_var 0) (a_cons (x_var 1) (a_cons (x_ix (x_var 2) (x_int)) (a_cons (x_ix (x_var 2) (x_int)) (a_cons (x_var 3) (a_nil)))))))) (x_int))))) rfl⟩
/-! ### side_for -/
def g_side_for : Gs := gRet (gOp hIx (gCallDf 6 f_hang_of [.int (0)] (gCons (gVar 0) (gCons (gCallN 2 f_others_of (gCons (gVar 1) (gCons (gVar 2) (gNil)))) (gCons (gOp hIx (gVar 2) (gC (.int (1)))) (gCons (gOp hIx (gVar 2) (gC (.int (2)))) (gCons (gVar 3) (gNil))))))) (gC (.int (2))))
def f_side_for : List Dt → O Dt := fnN 4 g_side_for
theorem ok_side_for (t : Tx K mg) : FnOk P w K mg base CX0 6 t.a_side_for t.d_side_for ["n", "kept", "tie", "k"] (spG K mg 4 f_side_for) := by
  have G_hang_of := ok_hang_of (P := P) (w := w) (base := base) t
  have G_others_of := ok_others_of (P := P) (w := w) (base := base) t
  have nd : (["n", "kept", "tie", "k"] : List Str).Nodup := by decide +kernel
  exact fn_okN t.F_side_for (Δn := [.im false, .im false, .im false, .im false]) sc_side_for rfl rfl (by decide) fun cdv A outer s H E hr => ⟨_, BD.frm [.im false, .im false, .im false, .im false] (Δb := kd0 4 4 false) (Δc := kd0 4 4 false)
    (b_one (z_ret (x_ix (x_callNDf G_hang_of (hr.mono (by decide)) t.m_hang_of t.F_hang_of.kp (bD_hang_of t) pass0 (AD.to true false (a_cons (x_var 0) (a_cons ((x_callL G_others_of (hr.mono (by decide)) t.m_others_of t.F_others_of.kp t.b_others_of pass0 (AD.to true false (a_cons (x_var 1) (a_cons (x_var 2) (a_nil))))).nv) (a_cons (x_ix (x_var 2) (x_int)) (a_cons (x_ix (x_var 2) (x_int)) (a_cons (x_var 3) (a_nil)))))))) (x_int)))) rfl⟩
/-! ### pared -/
def g_pared : Gs := gSeqS (gDrop (gCallN 3 f_layered (gCons (gVar 0) (gCons (gLst (gNil)) (gCons (gVar 2) (gNil)))))) (gSeqS (gSet 3 (gCallN 3 f_pared_ties (gCons (gVar 0) (gCons (gVar 1) (gCons (gVar 2) (gNil)))))) (gSeqS (gSet 4 (gLc (gSeq (gVar 3)) (tgN 5) (gYes) (gOp hIx (gVar 5) (gC (.int (0)))))) (gSeqS (gSet 6 (gLc (gSeq (gVar 1)) (tgN 5) (gTest (gOp hNotIn (gOp hIx (gVar 5) (gC (.int (0)))) (gVar 4))) (gCallN 4 f_ways_for (gCons (gVar 0) (gCons (gVar 3) (gCons (gVar 5) (gCons (gVar 2) (gNil)))))))) (gRet (gTup (gCons (gVar 4) (gCons (gVar 6) (gCons (gLc (gSeq (gVar 3)) (tgN 5) (gYes) (gCallN 4 f_side_for (gCons (gVar 0) (gCons (gVar 3) (gCons (gVar 5) (gCons (gVar 2) (gNil))))))) (gNil)))))))))
def f_pared : List Dt → O Dt := fnN 7 g_pared
theorem ok_pared (t : Tx K mg) : FnOk P w K mg base CX0 7 t.a_pared t.d_pared ["n", "record", "k"] (spG K mg 3 f_pared) := by
  have G_layered := ok_layered (P := P) (w := w) (base := base) t
  have G_pared_ties := ok_pared_ties (P := P) (w := w) (base := base) t
  have G_ways_for := ok_ways_for (P := P) (w := w) (base := base) t
  have G_side_for := ok_side_for (P := P) (w := w) (base := base) t
  have nd : (["n", "record", "k", "kept", "moments", "tie", "ways"] : List Str).Nodup := by decide +kernel
  exact fn_okN t.F_pared (Δn := [.im false, .im false, .im false, .no, .no, .no, .no]) sc_pared rfl rfl (by decide) fun cdv A outer s H E hr => ⟨_, BD.frm [.im false, .im false, .im false, .no, .no, .no, .no] (Δb := kd0 3 7 false) (Δc := kd0 3 7 false)
    (b_cons ((z_expr (x_callL G_layered (hr.mono (by decide)) t.m_layered t.F_layered.kp t.b_layered pass0 (AD.to true false (a_cons (x_var 0) (a_cons ((x_lst (a_nil)).nv) (a_cons (x_var 2) (a_nil))))))).to [.im false, .im false, .im false, .no, .no, .no, .no])
    (b_cons ((z_set 3 nd (x_callN G_pared_ties (hr.mono (by decide)) t.m_pared_ties t.F_pared_ties.kp t.b_pared_ties pass0 (AD.to true false (a_cons (x_var 0) (a_cons (x_var 1) (a_cons (x_var 2) (a_nil))))))).to [.im false, .im false, .im false, .im true, .no, .no, .no])
    (b_cons ((z_set 4 nd ((x_lc (n := 7) [("tie", 5)] nd (i_seq (x_var 3)) (blk_fx (N := ["n", "record", "k", "kept", "moments", "tie", "ways"]) (sc := defScope st_pared) (by decide +kernel)) (fun _ _ _ _ _ => g_name 5 nd) (fun _ _ _ _ _ => t_nil) (fun _ _ _ _ _ => x_ix (x_var 5) (x_int))).nv)).to [.im false, .im false, .im false, .im true, .im true, .no, .no])
    (b_cons ((z_setLc 6 (n := 7) [("tie", 5)] nd (i_seq (x_var 1)) (blk_fx (N := ["n", "record", "k", "kept", "moments", "tie", "ways"]) (sc := defScope st_pared) (by decide +kernel)) (fun _ _ _ _ _ => g_name 5 nd) (fun _ _ _ _ _ => t_one (c_cmp (or_notIn hr) (x_ix (x_var 5) (x_int)) (x_var 4))) (fun _ _ _ _ _ => x_callN G_ways_for (hr.mono (by decide)) t.m_ways_for t.F_ways_for.kp t.b_ways_for pass0 (AD.to true false (a_cons (x_var 0) (a_cons (x_var 3) (a_cons (x_var 5) (a_cons (x_var 2) (a_nil))))))) (sw_true rfl rfl rfl (by decide +kernel))).to [.im false, .im false, .im false, .im true, .im true, .no, .im true])
    (b_one (z_ret (x_tup (AD.to true true (a_cons (x_var 4) (a_cons (x_var 6) (a_cons ((x_lc (n := 7) [("tie", 5)] nd (i_seq (x_var 3)) (blk_fx (N := ["n", "record", "k", "kept", "moments", "tie", "ways"]) (sc := defScope st_pared) (by decide +kernel)) (fun _ _ _ _ _ => g_name 5 nd) (fun _ _ _ _ _ => t_nil) (fun _ _ _ _ _ => x_callN G_side_for (hr.mono (by decide)) t.m_side_for t.F_side_for.kp t.b_side_for pass0 (AD.to true false (a_cons (x_var 0) (a_cons (x_var 3) (a_cons (x_var 5) (a_cons (x_var 2) (a_nil)))))))).nv) (a_nil)))))))))))) rfl⟩
/-! ### _law_cell_at -/
def g_l_cell_at : Gs := gSeqS (gIfS (gTest (gOp hLt (gVar 1) (gCB hLen (gCons (gVar 0) (gNil))))) (gRet (gPur (gOp hIx (gVar 0) (gVar 1)))) (gNext)) (gRet (gC (.int (0))))
def f_l_cell_at : List Dt → O Dt := fnN 2 g_l_cell_at
theorem ok_l_cell_at (t : Tx K mg) : FnOk P w K mg base CX0 1 t.a_l_cell_at t.d_l_cell_at ["script", "k"] (spG K mg 2 f_l_cell_at) := by
  have nd : (["script", "k"] : List Str).Nodup := by decide +kernel
  exact fn_okN t.F_l_cell_at (Δn := [.im false, .im false]) sc_l_cell_at rfl rfl (by decide) fun cdv A outer s H E hr => ⟨_, BD.frm [.im false, .im false] (Δb := kd0 2 2 false) (Δc := kd0 2 2 false)
    (b_cons (z_if (Δn := [.im false, .im false]) (c_cmp or_lt (x_var 1) (x_len t.n_len (AD.to true false (a_cons (x_var 0) (a_nil)))))
    (b_one (z_ret (PD.pur (x_ix (x_var 0) (x_var 1)))))
    ((b_nil).to [.im false, .im false]))
    (b_one (z_ret (x_int)))) rfl⟩
/-! ### _law_pool -/
def g_l_pool_L1 : Gs := gSeqS (gSet 5 (gOp hMod (gOp hMulW (gOp hAdd (gOp hAdd (gOp hAdd (gOp hMod (gVar 2) (gC (.int (998244353)))) (gOp hMulW (gOp hMulW (gC (.int (89))) (gVar 4)) (gVar 4))) (gOp hMulW (gC (.int (7))) (gVar 1))) (gC (.int (1)))) (gC (.int (48271)))) (gC (.int (2147483647))))) (gSeqS (gSet 5 (gOp hMod (gOp hMulW (gVar 5) (gVar 5)) (gC (.int (1000000007))))) (gSeqS (gSet 5 (gOp hMod (gOp hMulW (gOp hAdd (gVar 5) (gOp hMulW (gC (.int (7919))) (gVar 4))) (gC (.int (69621)))) (gC (.int (2147483587))))) (gSet 3 (gOp hAdd (gOp hMulW (gVar 3) (gC (.int (1000003)))) (gOp hMod (gOp hDiv (gVar 5) (gC (.int (8)))) (gC (.int (1000003))))))))
def g_l_pool : Gs := gSeqS (gSet 2 (gCallN 2 f_l_cell_at (gCons (gVar 0) (gCons (gVar 1) (gNil))))) (gSeqS (gIfS (gTest (gOp hGe (gVar 2) (gOp hPow (gC (.int (10))) (gC (.int (18)))))) (gRet (gLst (gCons (gVar 2) (gNil)))) (gNext)) (gSeqS (gSet 3 (gC (.int (0)))) (gSeqS (gFor (gRng1 (gCons (gC (.int (48))) (gNil))) (tgN 4) g_l_pool_L1) (gRet (gLst (gCons (gVar 3) (gNil)))))))
def f_l_pool : List Dt → O Dt := fnL 6 g_l_pool
theorem ok_l_pool (t : Tx K mg) : FnOk P w K mg base CX0 2 t.a_l_pool t.d_l_pool ["script", "at"] (spL K mg 2 f_l_pool) := by
  have G_l_cell_at := ok_l_cell_at (P := P) (w := w) (base := base) t
  have nd : (["script", "at", "cell", "big", "turn", "one"] : List Str).Nodup := by decide +kernel
  exact fn_okL t.F_l_pool (Δn := [.im false, .im false, .no, .no, .no, .no]) sc_l_pool rfl rfl (by decide) fun cdv A outer s H E hr => ⟨_, BD.frm [.im false, .im false, .no, .no, .no, .no] (Δb := kd0 2 6 false) (Δc := kd0 2 6 false)
    (b_cons ((z_set 2 nd (x_callN G_l_cell_at (hr.mono (by decide)) t.m_l_cell_at t.F_l_cell_at.kp t.b_l_cell_at pass0 (AD.to true false (a_cons (x_var 0) (a_cons (x_var 1) (a_nil)))))).to [.im false, .im false, .im true, .no, .no, .no])
    (b_cons (z_if (Δn := [.im false, .im false, .im true, .no, .no, .no]) (c_cmp or_ge (x_var 2) (x_pow (x_int) (x_int)))
    (b_one (z_retL (x_lst (AD.to true true (a_cons (x_var 2) (a_nil))))))
    ((b_nil).to [.im false, .im false, .im true, .no, .no, .no]))
    (b_cons ((z_set 3 nd (x_int)).to [.im false, .im false, .im true, .im true, .no, .no])
    (b_cons (z_for (n := 6) .never (i_rng1 t.n_range (AD.to true true (a_cons (x_int) (a_nil)))) (g_name 4 nd)
    ((b_cons ((z_set 5 nd (x_mod (x_mulW (x_add (x_add (x_add (x_mod (x_var 2) (x_int)) (x_mulW (x_mulW (x_int) (x_var 4)) (x_var 4))) (x_mulW (x_int) (x_var 1))) (x_int)) (x_int)) (x_int))).to [.im false, .im false, .im true, .im true, .im true, .im true])
    (b_cons ((z_set 5 nd (x_mod (x_mulW (x_var 5) (x_var 5)) (x_int))).to [.im false, .im false, .im true, .im true, .im true, .im true])
    (b_cons ((z_set 5 nd (x_mod (x_mulW (x_add (x_var 5) (x_mulW (x_int) (x_var 4))) (x_int)) (x_int))).to [.im false, .im false, .im true, .im true, .im true, .im true])
    (b_one ((z_set 3 nd (x_add (x_mulW (x_var 3) (x_int)) (x_mod (x_div (x_var 5) (x_int)) (x_int)))).to [.im false, .im false, .im true, .im true, .im true, .im true]))))).to [.im false, .im false, .im true, .im true, .no, .no]))
    (b_one (z_retL (x_lst (AD.to true true (a_cons (x_var 3) (a_nil)))))))))) rfl⟩
/-! ### _law_take -/
def g_l_take : Gs := gSeqS (gSet 2 (gOp hMod (gOp hIx (gVar 0) (gC (.int (0)))) (gVar 1))) (gSeqS (gSetI 0 (gOp hDiv (gOp hIx (gVar 0) (gC (.int (0)))) (gVar 1)) (gC (.int (0)))) (xRetM (xP (gVar 2))))
def f_l_take : List Dt → O Dt := fnN 3 g_l_take
theorem ok_l_take (t : Tx K mg) : FnOk P w K mg base CX0 1 t.a_l_take t.d_l_take ["pool", "many"] (spM K .la 2 f_l_take) := by
  have nd : (["pool", "many", "number"] : List Str).Nodup := by decide +kernel
  exact fn_okM t.F_l_take (Δn := [.own .la true, .im false, .no]) sc_l_take rfl rfl (by decide) rfl fun cdv A outer s H E hr => ⟨_, BD.frm [.own .la true, .im false, .no] (Δb := kdM .la 2 3) (Δc := kdM .la 2 3)
    (b_cons ((z_set 2 nd (x_mod (x_ixO (x_ownA 0) (x_int)) (x_var 1))).to [.own .la true, .im false, .im true])
    (b_cons ((z_setIA 0 (x_div (x_ixO (x_ownA 0) (x_int)) (x_var 1)) (x_int)).to [.own .la true, .im false, .im true])
    (b_one (zx_retM (xd_of (x_var 2)))))) rfl⟩
/-! ### _law_record -/
def g_l_record_L1 : Gs := gSeqS (xSet 8 (xCallM .la 2 f_l_take 0 (xCons (xP (gVar 1)) (xNil)))) (gSeqS (xSet 9 (xCallM .la 2 f_l_take 0 (xCons (xP (gVar 1)) (xNil)))) (gSeqS (gIfS (gAnd (gTest (gOp hGt (gVar 4) (gC (.int (0))))) (gTest (gOp hEq (gVar 8) (gVar 9)))) (gSet 9 (gOp hMod (gOp hAdd (gVar 8) (gC (.int (1)))) (gVar 1))) (gNext)) (gSeqS (xIfS (xAnd (xPT (gTest (gOp hGt (gVar 7) (gC (.int (0)))))) (xTest (xOp hEq (xCallM .la 2 f_l_take 0 (xCons (xP (gC (.int (4)))) (xNil))) (xP (gC (.int (0))))))) (gSeqS (gSet 8 (gOp hIx (gOp hIx (gVar 6) (gOp hSub (gVar 7) (gC (.int (1))))) (gC (.int (1))))) (gSet 9 (gOp hIx (gOp hIx (gVar 6) (gOp hSub (gVar 7) (gC (.int (1))))) (gC (.int (2)))))) (gNext)) (gSeqS (gApp 6 (gTup (gCons (gVar 5) (gCons (gCB hMin2 (gCons (gVar 8) (gCons (gVar 9) (gNil)))) (gCons (gCB hMax2 (gCons (gVar 8) (gCons (gVar 9) (gNil)))) (gNil)))))) (xSet 5 (xOp hAdd (xP (gOp hAdd (gVar 5) (gC (.int (1))))) (xOp hMul (xCallM .la 2 f_l_take 0 (xCons (xP (gOp hIx (gLst (gCons (gC (.int (1))) (gCons (gC (.int (3))) (gCons (gC (.int (1000))) (gNil))))) (gVar 4))) (xNil))) (xP (gOp hIx (gLst (gCons (gC (.int (1))) (gCons (gC (.int (1))) (gCons (gOp hPow (gC (.int (10))) (gC (.int (25)))) (gNil))))) (gVar 4))))))))))
def g_l_record : Gs := gSeqS (xSet 3 (xCallM .la 2 f_l_take 0 (xCons (xP (gOp hAdd (gVar 2) (gC (.int (1))))) (xNil)))) (gSeqS (xSet 4 (xCallM .la 2 f_l_take 0 (xCons (xP (gC (.int (3)))) (xNil)))) (gSeqS (xSet 5 (xCallM .la 2 f_l_take 0 (xCons (xP (gC (.int (4)))) (xNil)))) (gSeqS (gSet 6 (gLst (gNil))) (gSeqS (gFor (gRng1 (gCons (gVar 3) (gNil))) (tgN 7) g_l_record_L1) (xRetMO 6)))))
def f_l_record : List Dt → O Dt := fnL 10 g_l_record
theorem ok_l_record (t : Tx K mg) : FnOk P w K mg base CX0 2 t.a_l_record t.d_l_record ["pool", "n", "most"] (spML K .la 3 f_l_record) := by
  have G_l_take := ok_l_take (P := P) (w := w) (base := base) t
  have nd : (["pool", "n", "most", "many", "wide", "moment", "record", "k", "a", "b"] : List Str).Nodup := by decide +kernel
  exact fn_okML t.F_l_record (Δn := [.own .la true, .im false, .im false, .no, .no, .no, .no, .no, .no, .no]) sc_l_record rfl rfl (by decide) rfl fun cdv A outer s H E hr => ⟨_, BD.frm [.own .la true, .im false, .im false, .no, .no, .no, .no, .no, .no, .no] (Δb := kdM .la 3 10) (Δc := kdM .la 3 10)
    (b_cons ((zx_set 3 nd (xd_callM 0 G_l_take (hr.mono (by decide)) t.m_l_take t.F_l_take.kp t.b_l_take pass0 (xb_a (XAD.to true true (xa_cons (xd_of (x_add (x_var 2) (x_int))) (xa_nil)))))).to [.own .la true, .im false, .im false, .im true, .no, .no, .no, .no, .no, .no])
    (b_cons ((zx_set 4 nd (xd_callM 0 G_l_take (hr.mono (by decide)) t.m_l_take t.F_l_take.kp t.b_l_take pass0 (xb_a (XAD.to true true (xa_cons (xd_of (x_int)) (xa_nil)))))).to [.own .la true, .im false, .im false, .im true, .im true, .no, .no, .no, .no, .no])
    (b_cons ((zx_set 5 nd (xd_callM 0 G_l_take (hr.mono (by decide)) t.m_l_take t.F_l_take.kp t.b_l_take pass0 (xb_a (XAD.to true true (xa_cons (xd_of (x_int)) (xa_nil)))))).to [.own .la true, .im false, .im false, .im true, .im true, .im true, .no, .no, .no, .no])
    (b_cons ((z_setO 6 nd (x_lst (a_nil))).to [.own .la true, .im false, .im false, .im true, .im true, .im true, .own .l true, .no, .no, .no])
    (b_cons (z_for (n := 10) .never (i_rng1 t.n_range (AD.to true true (a_cons (x_var 3) (a_nil)))) (g_name 7 nd)
    ((b_cons ((zx_set 8 nd (xd_callM 0 G_l_take (hr.mono (by decide)) t.m_l_take t.F_l_take.kp t.b_l_take pass0 (xb_a (XAD.to true false (xa_cons (xd_of (x_var 1)) (xa_nil)))))).to [.own .la true, .im false, .im false, .im true, .im true, .im true, .own .l true, .im true, .im true, .no])
    (b_cons ((zx_set 9 nd (xd_callM 0 G_l_take (hr.mono (by decide)) t.m_l_take t.F_l_take.kp t.b_l_take pass0 (xb_a (XAD.to true false (xa_cons (xd_of (x_var 1)) (xa_nil)))))).to [.own .la true, .im false, .im false, .im true, .im true, .im true, .own .l true, .im true, .im true, .im true])
    (b_cons (z_if (Δn := [.own .la true, .im false, .im false, .im true, .im true, .im true, .own .l true, .im true, .im true, .im true]) (c_w (w_and (c_cmp or_gt (x_var 4) (x_int)) (w_and1 (c_cmp (or_eq hr) (x_var 8) (x_var 9)))))
    ((b_one ((z_set 9 nd (x_mod (x_add (x_var 8) (x_int)) (x_var 1))).to [.own .la true, .im false, .im false, .im true, .im true, .im true, .own .l true, .im true, .im true, .im true])).to [.own .la true, .im false, .im false, .im true, .im true, .im true, .own .l true, .im true, .im true, .im true])
    ((b_nil).to [.own .la true, .im false, .im false, .im true, .im true, .im true, .own .l true, .im true, .im true, .im true]))
    (b_cons (zx_if (Δn := [.own .la true, .im false, .im false, .im true, .im true, .im true, .own .l true, .im true, .im true, .im true]) (xt_w (xw_and (xt_of (c_cmp or_gt (x_var 7) (x_int))) (xw_and1 (xt_cmp (or_eq hr) (xd_callM 0 G_l_take (hr.mono (by decide)) t.m_l_take t.F_l_take.kp t.b_l_take pass0 (xb_a (XAD.to true true (xa_cons (xd_of (x_int)) (xa_nil))))) (xd_of (x_int))))))
    ((b_cons ((z_set 8 nd (x_ix (x_ixO (x_own 6) (x_sub (x_var 7) (x_int))) (x_int))).to [.own .la true, .im false, .im false, .im true, .im true, .im true, .own .l true, .im true, .im true, .im true])
    (b_one ((z_set 9 nd (x_ix (x_ixO (x_own 6) (x_sub (x_var 7) (x_int))) (x_int))).to [.own .la true, .im false, .im false, .im true, .im true, .im true, .own .l true, .im true, .im true, .im true]))).to [.own .la true, .im false, .im false, .im true, .im true, .im true, .own .l true, .im true, .im true, .im true])
    ((b_nil).to [.own .la true, .im false, .im false, .im true, .im true, .im true, .own .l true, .im true, .im true, .im true]))
    (b_cons ((z_app 6 (x_tup (AD.to true true (a_cons (x_var 5) (a_cons (x_min2 t.n_min (AD.to true true (a_cons (x_var 8) (a_cons (x_var 9) (a_nil))))) (a_cons (x_max2 t.n_max (AD.to true true (a_cons (x_var 8) (a_cons (x_var 9) (a_nil))))) (a_nil))))))).to [.own .la true, .im false, .im false, .im true, .im true, .im true, .own .l true, .im true, .im true, .im true])
    (b_one ((zx_set 5 nd (xd_add (xd_of (x_add (x_var 5) (x_int))) (xd_mul (xd_callM 0 G_l_take (hr.mono (by decide)) t.m_l_take t.F_l_take.kp t.b_l_take pass0 (xb_a (XAD.to true true (xa_cons (xd_of (x_ix ((x_lst (AD.to true true (a_cons (x_int) (a_cons (x_int) (a_cons (x_int) (a_nil)))))).nv) (x_var 4))) (xa_nil))))) (xd_of (x_ix ((x_lst (AD.to true true (a_cons (x_int) (a_cons (x_int) (a_cons (x_pow (x_int) (x_int)) (a_nil)))))).nv) (x_var 4)))))).to [.own .la true, .im false, .im false, .im true, .im true, .im true, .own .l true, .im true, .im true, .im true]))))))).to [.own .la true, .im false, .im false, .im true, .im true, .im true, .own .l true, .no, .no, .no]))
    (b_one (zx_retMO 6))))))) rfl⟩
/-! ### _law_rim -/
def g_l_rim : Gs := gRet (gPurN (gLc (gSeq (gVar 0)) (tgT (tgCons (tgN 2) (tgCons (tgN 3) (tgCons (tgN 4) (tgNil))))) (gTest (gOp hNe (gOp hIn (gVar 3) (gVar 1)) (gOp hIn (gVar 4) (gVar 1)))) (gVar 2)))
def f_l_rim : List Dt → O Dt := fnL 5 g_l_rim
theorem ok_l_rim (t : Tx K mg) : FnOk P w K mg base CX0 1 t.a_l_rim t.d_l_rim ["record", "side"] (spL K mg 2 f_l_rim) := by
  have nd : (["record", "side", "moment", "a", "b"] : List Str).Nodup := by decide +kernel
  exact fn_okL t.F_l_rim (Δn := [.im false, .im false, .no, .no, .no]) sc_l_rim rfl rfl (by decide) fun cdv A outer s H E hr => ⟨_, BD.frm [.im false, .im false, .no, .no, .no] (Δb := kd0 2 5 false) (Δc := kd0 2 5 false)
    (b_one (z_retL (PD.purN (x_lc (n := 5) [("moment", 2), ("a", 3), ("b", 4)] nd (i_seq (x_var 0)) (blk_fx (N := ["record", "side", "moment", "a", "b"]) (sc := defScope st_l_rim) (by decide +kernel)) (fun _ _ _ _ _ => g_tup (m := 3) rfl (g_cons (g_name 2 nd) (g_cons (g_name 3 nd) (g_cons (g_name 4 nd) (g_nil)))) (tgCons_len (tgCons_len (tgCons_len tgNil_len)))) (fun _ _ _ _ _ => t_one (c_cmp (or_ne hr) (x_cmp (or_in hr) (x_var 3) (x_var 1)) (x_cmp (or_in hr) (x_var 4) (x_var 1)))) (fun _ _ _ _ _ => x_var 2))))) rfl⟩
/-! ### _law_sides -/
def g_l_sides_L1 : Gs := gApp 1 (gCB (one hTupOf) (gCons (gLc (gRng2 (gCons (gC (.int (1))) (gCons (gVar 0) (gNil)))) (tgN 3) (gTest (gOp hEq (gOp hBand (gOp hShr (gVar 2) (gOp hSub (gVar 3) (gC (.int (1))))) (gC (.int (1)))) (gC (.int (1))))) (gVar 3)) (gNil)))
def g_l_sides : Gs := gSeqS (gSet 1 (gLst (gNil))) (gSeqS (gFor (gRng2 (gCons (gC (.int (1))) (gCons (gOp hShl (gC (.int (1))) (gOp hSub (gVar 0) (gC (.int (1))))) (gNil)))) (tgN 2) g_l_sides_L1) (gRet (gVar 1)))
def f_l_sides : List Dt → O Dt := fnL 4 g_l_sides
theorem ok_l_sides (t : Tx K mg) : FnOk P w K mg base CX0 1 t.a_l_sides t.d_l_sides ["n"] (spL K mg 1 f_l_sides) := by
  have nd : (["n", "found", "bits", "place"] : List Str).Nodup := by decide +kernel
  exact fn_okL t.F_l_sides (Δn := [.im false, .no, .no, .no]) sc_l_sides rfl rfl (by decide) fun cdv A outer s H E hr => ⟨_, BD.frm [.im false, .no, .no, .no] (Δb := kd0 1 4 false) (Δc := kd0 1 4 false)
    (b_cons ((z_setO 1 nd (x_lst (a_nil))).to [.im false, .own .l true, .no, .no])
    (b_cons (z_for (n := 4) .never (i_rng2 t.n_range (AD.to true true (a_cons (x_int) (a_cons (x_shl (x_int) (x_sub (x_var 0) (x_int))) (a_nil))))) (g_name 2 nd)
    ((b_one ((z_app 1 (x_tuple t.n_tuple (AD.to true true (a_cons ((x_lc (n := 4) [("place", 3)] nd (i_rng2 t.n_range (AD.to true false (a_cons (x_int) (a_cons (x_var 0) (a_nil))))) (blk_fx (N := ["n", "found", "bits", "place"]) (sc := defScope st_l_sides) (by decide +kernel)) (fun _ _ _ _ _ => g_name 3 nd) (fun _ _ _ _ _ => t_one (c_cmp (or_eq hr) (x_band (x_shr (x_var 2) (x_sub (x_var 3) (x_int))) (x_int)) (x_int))) (fun _ _ _ _ _ => x_var 3)).nv) (a_nil))))).to [.im false, .own .l true, .im true, .no])).to [.im false, .own .l true, .no, .no]))
    (b_one (z_retO 1)))) rfl⟩
/-! ### law -/
def g_law_L1 : Gs := gSeqS (gSet 11 (gCallN 2 f_l_rim (gCons (gVar 7) (gCons (gVar 10) (gNil))))) (gSeqS (gSet 12 (gCB hLen (gCons (gCallN 2 f_l_rim (gCons (gVar 5) (gCons (gVar 10) (gNil)))) (gNil)))) (gSeqS (gIfS (gTest (gOp hLt (gCB hLen (gCons (gVar 11) (gNil))) (gCB hMin2 (gCons (gVar 4) (gCons (gVar 12) (gNil)))))) (gRet (gC (.bool false))) (gNext)) (gIfS (gTest (gOp hEq (gCB hLen (gCons (gVar 11) (gNil))) (gCB hMin2 (gCons (gVar 4) (gCons (gVar 12) (gNil)))))) (gSet 9 (gOp hCat (gVar 9) (gVar 11))) (gNext))))
def g_law_L2 : Gs := gSeqS (gSet 1 (gCallN 2 f_l_pool (gCons (gVar 0) (gCons (gVar 3) (gNil))))) (gSeqS (xSet 4 (xOp hAdd (xP (gC (.int (1)))) (xCallM .la 2 f_l_take 1 (xCons (xOp hIx (xP (gLst (gCons (gC (.int (3))) (gCons (gC (.int (6))) (gNil))))) (xCallM .la 2 f_l_take 1 (xCons (xP (gC (.int (2)))) (xNil)))) (xNil))))) (gSeqS (xSet 5 (xCallM .la 3 f_l_record 1 (xCons (xP (gVar 2)) (xCons (xOp hIx (xP (gLst (gCons (gC (.int (18))) (gCons (gC (.int (18))) (gCons (gC (.int (60))) (gNil)))))) (xCallM .la 2 f_l_take 1 (xCons (xP (gC (.int (3)))) (xNil)))) (xNil))))) (gSeqS (gSet 6 (gOp hIx (gCallN 3 f_pared (gCons (gVar 2) (gCons (gCB (one hListOf) (gCons (gVar 5) gNil)) (gCons (gVar 4) (gNil))))) (gC (.int (0))))) (gSeqS (gSet 7 (gLc (gSeq (gVar 5)) (tgN 8) (gTest (gOp hIn (gOp hIx (gVar 8) (gC (.int (0)))) (gVar 6))) (gVar 8))) (gSeqS (gIfS (gOr (gTest (gOp hNe (gCB hLen (gCons (gVar 7) (gNil))) (gCB hLen (gCons (gVar 6) (gNil))))) (gTest (gOp hGt (gCB hLen (gCons (gVar 7) (gNil))) (gOp hMul (gVar 4) (gOp hSub (gVar 2) (gC (.int (1)))))))) (gRet (gC (.bool false))) (gNext)) (gSeqS (gSet 9 (gLst (gNil))) (gSeqS (gFor (gSeq (gCallN 1 f_l_sides (gCons (gVar 2) (gNil)))) (tgN 10) g_law_L1) (gIfS (gOr (gNot (gTest (gCB hAll (gCons (gLc (gSeq (gVar 6)) (tgN 13) (gYes) (gOp hIn (gVar 13) (gVar 9))) (gNil))))) (gTest (gOp hNe (gOp hIx (gCallN 3 f_pared (gCons (gVar 2) (gCons (gVar 7) (gCons (gVar 4) (gNil))))) (gC (.int (0)))) (gVar 6)))) (gRet (gC (.bool false))) (gNext)))))))))
def g_law : Gs := gSeqS (gSet 1 (gCallN 2 f_l_pool (gCons (gVar 0) (gCons (gC (.int (0))) (gNil))))) (gSeqS (xSet 2 (xOp hAdd (xP (gC (.int (1)))) (xCallM .la 2 f_l_take 1 (xCons (xOp hIx (xP (gLst (gCons (gC (.int (6))) (gCons (gC (.int (6))) (gCons (gC (.int (6))) (gCons (gC (.int (6))) (gCons (gC (.int (6))) (gCons (gC (.int (6))) (gCons (gC (.int (6))) (gCons (gC (.int (10))) (gNil))))))))))) (xCallM .la 2 f_l_take 1 (xCons (xP (gC (.int (8)))) (xNil)))) (xNil))))) (gSeqS (gFor (gRng2 (gCons (gC (.int (1))) (gCons (gCB hMax2 (gCons (gC (.int (2))) (gCons (gCB hMin2 (gCons (gC (.int (4))) (gCons (gCB hLen (gCons (gVar 0) (gNil))) (gNil)))) (gNil)))) (gNil)))) (tgN 3) g_law_L2) (gRet (gC (.bool true)))))
def f_law : List Dt → O Dt := fnN 14 g_law
theorem ok_law (t : Tx K mg) : FnOk P w K mg base CX0 8 t.a_law t.d_law ["script"] (spG K mg 1 f_law) := by
  have G_l_pool := ok_l_pool (P := P) (w := w) (base := base) t
  have G_l_take := ok_l_take (P := P) (w := w) (base := base) t
  have G_l_record := ok_l_record (P := P) (w := w) (base := base) t
  have G_pared := ok_pared (P := P) (w := w) (base := base) t
  have G_l_sides := ok_l_sides (P := P) (w := w) (base := base) t
  have G_l_rim := ok_l_rim (P := P) (w := w) (base := base) t
  have nd : (["script", "pool", "n", "at", "k", "record", "moments", "kept", "tie", "needed", "side", "few", "many", "moment"] : List Str).Nodup := by decide +kernel
  exact fn_okN t.F_law (Δn := [.im false, .no, .no, .no, .no, .no, .no, .no, .no, .no, .no, .no, .no, .no]) sc_law rfl rfl (by decide) fun cdv A outer s H E hr => ⟨_, BD.frm [.im false, .no, .no, .no, .no, .no, .no, .no, .no, .no, .no, .no, .no, .no] (Δb := kd0 1 14 false) (Δc := kd0 1 14 false)
    (b_cons ((z_setO 1 nd (x_callL G_l_pool (hr.mono (by decide)) t.m_l_pool t.F_l_pool.kp t.b_l_pool pass0 (AD.to true false (a_cons (x_var 0) (a_cons (x_int) (a_nil)))))).to [.im false, .own .l true, .no, .no, .no, .no, .no, .no, .no, .no, .no, .no, .no, .no])
    (b_cons ((zx_set 2 nd (xd_add (xd_of (x_int)) (xd_callM 1 G_l_take (hr.mono (by decide)) t.m_l_take t.F_l_take.kp t.b_l_take pass0 (xb_a (XAD.to true true (xa_cons (xd_ix ((xd_ofN (x_lst (AD.to true true (a_cons (x_int) (a_cons (x_int) (a_cons (x_int) (a_cons (x_int) (a_cons (x_int) (a_cons (x_int) (a_cons (x_int) (a_cons (x_int) (a_nil)))))))))))).nv) (xd_callM 1 G_l_take (hr.mono (by decide)) t.m_l_take t.F_l_take.kp t.b_l_take pass0 (xb_a (XAD.to true true (xa_cons (xd_of (x_int)) (xa_nil)))))) (xa_nil))))))).to [.im false, .own .l true, .im true, .no, .no, .no, .no, .no, .no, .no, .no, .no, .no, .no])
    (b_cons (z_for (n := 14) .never (i_rng2 t.n_range (AD.to true true (a_cons (x_int) (a_cons (x_max2 t.n_max (AD.to true true (a_cons (x_int) (a_cons (x_min2 t.n_min (AD.to true true (a_cons (x_int) (a_cons (x_len t.n_len (AD.to true false (a_cons (x_var 0) (a_nil)))) (a_nil))))) (a_nil))))) (a_nil))))) (g_name 3 nd)
    ((b_cons ((z_setO 1 nd (x_callL G_l_pool (hr.mono (by decide)) t.m_l_pool t.F_l_pool.kp t.b_l_pool pass0 (AD.to true false (a_cons (x_var 0) (a_cons (x_var 3) (a_nil)))))).to [.im false, .own .l true, .im true, .im true, .no, .no, .no, .no, .no, .no, .no, .no, .no, .no])
    (b_cons ((zx_set 4 nd (xd_add (xd_of (x_int)) (xd_callM 1 G_l_take (hr.mono (by decide)) t.m_l_take t.F_l_take.kp t.b_l_take pass0 (xb_a (XAD.to true true (xa_cons (xd_ix ((xd_ofN (x_lst (AD.to true true (a_cons (x_int) (a_cons (x_int) (a_nil)))))).nv) (xd_callM 1 G_l_take (hr.mono (by decide)) t.m_l_take t.F_l_take.kp t.b_l_take pass0 (xb_a (XAD.to true true (xa_cons (xd_of (x_int)) (xa_nil)))))) (xa_nil))))))).to [.im false, .own .l true, .im true, .im true, .im true, .no, .no, .no, .no, .no, .no, .no, .no, .no])
    (b_cons ((zx_set 5 nd ((xd_callML 1 G_l_record (hr.mono (by decide)) t.m_l_record t.F_l_record.kp t.b_l_record pass0 (xb_a (XAD.to true true (xa_cons (xd_of (x_var 2)) (xa_cons (xd_ix ((xd_ofN (x_lst (AD.to true true (a_cons (x_int) (a_cons (x_int) (a_cons (x_int) (a_nil))))))).nv) (xd_callM 1 G_l_take (hr.mono (by decide)) t.m_l_take t.F_l_take.kp t.b_l_take pass0 (xb_a (XAD.to true true (xa_cons (xd_of (x_int)) (xa_nil)))))) (xa_nil)))))).nv)).to [.im false, .own .l true, .im true, .im true, .im true, .im true, .no, .no, .no, .no, .no, .no, .no, .no])
    (b_cons ((z_set 6 nd (x_ix (x_callN G_pared (hr.mono (by decide)) t.m_pared t.F_pared.kp t.b_pared pass0 (AD.to true true (a_cons (x_var 2) (a_cons ((x_list t.n_list (a_cons (x_var 5) a_nil)).nv) (a_cons (x_var 4) (a_nil)))))) (x_int))).to [.im false, .own .l true, .im true, .im true, .im true, .im true, .im true, .no, .no, .no, .no, .no, .no, .no])
    (b_cons ((z_setLc 7 (n := 14) [("tie", 8)] nd (i_seq (x_var 5)) (blk_fx (N := ["script", "pool", "n", "at", "k", "record", "moments", "kept", "tie", "needed", "side", "few", "many", "moment"]) (sc := defScope st_law) (by decide +kernel)) (fun _ _ _ _ _ => g_name 8 nd) (fun _ _ _ _ _ => t_one (c_cmp (or_in hr) (x_ix (x_var 8) (x_int)) (x_var 6))) (fun _ _ _ _ _ => x_var 8) (sw_true rfl rfl rfl (by decide +kernel))).to [.im false, .own .l true, .im true, .im true, .im true, .im true, .im true, .im true, .no, .no, .no, .no, .no, .no])
    (b_cons (z_if (Δn := [.im false, .own .l true, .im true, .im true, .im true, .im true, .im true, .im true, .no, .no, .no, .no, .no, .no]) (c_w (w_or (c_cmp (or_ne hr) (x_len t.n_len (AD.to true true (a_cons (x_var 7) (a_nil)))) (x_len t.n_len (AD.to true true (a_cons (x_var 6) (a_nil))))) (w_or1 (c_cmp or_gt (x_len t.n_len (AD.to true true (a_cons (x_var 7) (a_nil)))) (x_mul (x_var 4) (x_sub (x_var 2) (x_int)))))))
    (b_one (z_ret (x_bl)))
    ((b_nil).to [.im false, .own .l true, .im true, .im true, .im true, .im true, .im true, .im true, .no, .no, .no, .no, .no, .no]))
    (b_cons ((z_set 9 nd ((x_lst (a_nil)).nv)).to [.im false, .own .l true, .im true, .im true, .im true, .im true, .im true, .im true, .no, .im true, .no, .no, .no, .no])
    (b_cons (z_for (n := 14) .never (i_seq ((x_callL G_l_sides (hr.mono (by decide)) t.m_l_sides t.F_l_sides.kp t.b_l_sides pass0 (AD.to true true (a_cons (x_var 2) (a_nil)))).nv)) (g_name 10 nd)
    ((b_cons ((z_set 11 nd ((x_callL G_l_rim (hr.mono (by decide)) t.m_l_rim t.F_l_rim.kp t.b_l_rim pass0 (AD.to true true (a_cons (x_var 7) (a_cons (x_var 10) (a_nil))))).nv)).to [.im false, .own .l true, .im true, .im true, .im true, .im true, .im true, .im true, .no, .im true, .im true, .im true, .no, .no])
    (b_cons ((z_set 12 nd (x_len t.n_len (AD.to true true (a_cons ((x_callL G_l_rim (hr.mono (by decide)) t.m_l_rim t.F_l_rim.kp t.b_l_rim pass0 (AD.to true true (a_cons (x_var 5) (a_cons (x_var 10) (a_nil))))).nv) (a_nil))))).to [.im false, .own .l true, .im true, .im true, .im true, .im true, .im true, .im true, .no, .im true, .im true, .im true, .im true, .no])
    (b_cons (z_if (Δn := [.im false, .own .l true, .im true, .im true, .im true, .im true, .im true, .im true, .no, .im true, .im true, .im true, .im true, .no]) (c_cmp or_lt (x_len t.n_len (AD.to true true (a_cons (x_var 11) (a_nil)))) (x_min2 t.n_min (AD.to true true (a_cons (x_var 4) (a_cons (x_var 12) (a_nil))))))
    (b_one (z_ret (x_bl)))
    ((b_nil).to [.im false, .own .l true, .im true, .im true, .im true, .im true, .im true, .im true, .no, .im true, .im true, .im true, .im true, .no]))
    (b_one (z_if (Δn := [.im false, .own .l true, .im true, .im true, .im true, .im true, .im true, .im true, .no, .im true, .im true, .im true, .im true, .no]) (c_cmp (or_eq hr) (x_len t.n_len (AD.to true true (a_cons (x_var 11) (a_nil)))) (x_min2 t.n_min (AD.to true true (a_cons (x_var 4) (a_cons (x_var 12) (a_nil))))))
    ((b_one ((z_set 9 nd ((PD.wkN true (x_cat (x_var 9) (x_var 11))).nv)).to [.im false, .own .l true, .im true, .im true, .im true, .im true, .im true, .im true, .no, .im true, .im true, .im true, .im true, .no])).to [.im false, .own .l true, .im true, .im true, .im true, .im true, .im true, .im true, .no, .im true, .im true, .im true, .im true, .no])
    ((b_nil).to [.im false, .own .l true, .im true, .im true, .im true, .im true, .im true, .im true, .no, .im true, .im true, .im true, .im true, .no])))))).to [.im false, .own .l true, .im true, .im true, .im true, .im true, .im true, .im true, .no, .im true, .no, .no, .no, .no]))
    (b_one (z_if (Δn := [.im false, .own .l true, .im true, .im true, .im true, .im true, .im true, .im true, .no, .im true, .no, .no, .no, .no]) (c_w (w_or (c_not (c_val (x_all t.n_all (AD.to true true (a_cons ((x_lc (n := 14) [("moment", 13)] nd (i_seq (x_var 6)) (blk_fx (N := ["script", "pool", "n", "at", "k", "record", "moments", "kept", "tie", "needed", "side", "few", "many", "moment"]) (sc := defScope st_law) (by decide +kernel)) (fun _ _ _ _ _ => g_name 13 nd) (fun _ _ _ _ _ => t_nil) (fun _ _ _ _ _ => x_cmp (or_in hr) (x_var 13) (x_var 9))).nv) (a_nil)))))) (w_or1 (c_cmp (or_ne hr) (x_ix (x_callN G_pared (hr.mono (by decide)) t.m_pared t.F_pared.kp t.b_pared pass0 (AD.to true true (a_cons (x_var 2) (a_cons (x_var 7) (a_cons (x_var 4) (a_nil)))))) (x_int)) (x_var 6)))))
    (b_one (z_ret (x_bl)))
    ((b_nil).to [.im false, .own .l true, .im true, .im true, .im true, .im true, .im true, .im true, .no, .im true, .no, .no, .no, .no]))))))))))).to [.im false, .own .l true, .im true, .no, .no, .no, .no, .no, .no, .no, .no, .no, .no, .no]))
    (b_one (z_ret (x_bl)))))) rfl⟩
end
/-! ### what the top has written -/
section
variable {w : World} {K : PySem.W.Frag} {h : Heap} {mg : Str → Option Value}
def mkTx (X : K.In h) (G : h.Ns mainGlobals mg)
    {f0 : Addr} {od0 an0 : Option Addr} {sl0 : Array (Option Value)} {oc0 kV0 dc0 pm0 cd0 ct0 : Value}
        (a0 : PySem.W.nsIn K mainGlobals "can_go" = some (some (.ref f0))) (l0 : K.lookup f0 = some ⟨oc0, od0, .func (PySem.W.fnOf "can_go" "can_go" (defArgs st_can_go) (defBody st_can_go) (defScope st_can_go) .none kV0 dc0 pm0 an0 cd0 ct0), sl0⟩) (c0 : PySem.W.codeIn K cd0 "can_go" = true) (k0 : PySem.W.keepIn K (.ref f0) = true)
    {f1 : Addr} {od1 an1 : Option Addr} {sl1 : Array (Option Value)} {oc1 kV1 dc1 pm1 cd1 ct1 : Value}
        (a1 : PySem.W.nsIn K mainGlobals "spread" = some (some (.ref f1))) (l1 : K.lookup f1 = some ⟨oc1, od1, .func (PySem.W.fnOf "spread" "spread" (defArgs st_spread) (defBody st_spread) (defScope st_spread) .none kV1 dc1 pm1 an1 cd1 ct1), sl1⟩) (c1 : PySem.W.codeIn K cd1 "spread" = true) (k1 : PySem.W.keepIn K (.ref f1) = true)
    {f2 : Addr} {od2 an2 : Option Addr} {sl2 : Array (Option Value)} {oc2 kV2 dc2 pm2 cd2 ct2 : Value}
        (a2 : PySem.W.nsIn K mainGlobals "push" = some (some (.ref f2))) (l2 : K.lookup f2 = some ⟨oc2, od2, .func (PySem.W.fnOf "push" "push" (defArgs st_push) (defBody st_push) (defScope st_push) .none kV2 dc2 pm2 an2 cd2 ct2), sl2⟩) (c2 : PySem.W.codeIn K cd2 "push" = true) (k2 : PySem.W.keepIn K (.ref f2) = true)
    {f3 : Addr} {od3 an3 : Option Addr} {sl3 : Array (Option Value)} {oc3 kV3 dc3 pm3 cd3 ct3 : Value}
        (a3 : PySem.W.nsIn K mainGlobals "next_tie" = some (some (.ref f3))) (l3 : K.lookup f3 = some ⟨oc3, od3, .func (PySem.W.fnOf "next_tie" "next_tie" (defArgs st_next_tie) (defBody st_next_tie) (defScope st_next_tie) .none kV3 dc3 pm3 an3 cd3 ct3), sl3⟩) (c3 : PySem.W.codeIn K cd3 "next_tie" = true) (k3 : PySem.W.keepIn K (.ref f3) = true)
    {f4 : Addr} {od4 an4 : Option Addr} {sl4 : Array (Option Value)} {oc4 kV4 dc4 pm4 cd4 ct4 : Value}
        (a4 : PySem.W.nsIn K mainGlobals "one_way" = some (some (.ref f4))) (l4 : K.lookup f4 = some ⟨oc4, od4, .func (PySem.W.fnOf "one_way" "one_way" (defArgs st_one_way) (defBody st_one_way) (defScope st_one_way) .none kV4 dc4 pm4 an4 cd4 ct4), sl4⟩) (c4 : PySem.W.codeIn K cd4 "one_way" = true) (k4 : PySem.W.keepIn K (.ref f4) = true)
    {f5 : Addr} {od5 an5 : Option Addr} {sl5 : Array (Option Value)} {oc5 kV5 dc5 pm5 cd5 ct5 : Value}
        (a5 : PySem.W.nsIn K mainGlobals "ways_and_side" = some (some (.ref f5))) (l5 : K.lookup f5 = some ⟨oc5, od5, .func (PySem.W.fnOf "ways_and_side" "ways_and_side" (defArgs st_ways_and_side) (defBody st_ways_and_side) (defScope st_ways_and_side) .none kV5 dc5 pm5 an5 cd5 ct5), sl5⟩) (c5 : PySem.W.codeIn K cd5 "ways_and_side" = true) (k5 : PySem.W.keepIn K (.ref f5) = true)
    {f6 : Addr} {od6 an6 : Option Addr} {sl6 : Array (Option Value)} {oc6 kV6 dc6 pm6 cd6 ct6 : Value}
        (a6 : PySem.W.nsIn K mainGlobals "is_whole" = some (some (.ref f6))) (l6 : K.lookup f6 = some ⟨oc6, od6, .func (PySem.W.fnOf "is_whole" "is_whole" (defArgs st_is_whole) (defBody st_is_whole) (defScope st_is_whole) .none kV6 dc6 pm6 an6 cd6 ct6), sl6⟩) (c6 : PySem.W.codeIn K cd6 "is_whole" = true) (k6 : PySem.W.keepIn K (.ref f6) = true)
    {f7 : Addr} {od7 an7 : Option Addr} {sl7 : Array (Option Value)} {oc7 kV7 dc7 pm7 cd7 ct7 : Value}
        (a7 : PySem.W.nsIn K mainGlobals "since" = some (some (.ref f7))) (l7 : K.lookup f7 = some ⟨oc7, od7, .func (PySem.W.fnOf "since" "since" (defArgs st_since) (defBody st_since) (defScope st_since) .none kV7 dc7 pm7 an7 cd7 ct7), sl7⟩) (c7 : PySem.W.codeIn K cd7 "since" = true) (k7 : PySem.W.keepIn K (.ref f7) = true)
    {f8 : Addr} {od8 an8 : Option Addr} {sl8 : Array (Option Value)} {oc8 kV8 dc8 pm8 cd8 ct8 : Value}
        (a8 : PySem.W.nsIn K mainGlobals "joined" = some (some (.ref f8))) (l8 : K.lookup f8 = some ⟨oc8, od8, .func (PySem.W.fnOf "joined" "joined" (defArgs st_joined) (defBody st_joined) (defScope st_joined) .none kV8 dc8 pm8 an8 cd8 ct8), sl8⟩) (c8 : PySem.W.codeIn K cd8 "joined" = true) (k8 : PySem.W.keepIn K (.ref f8) = true)
    {f9 : Addr} {od9 an9 : Option Addr} {sl9 : Array (Option Value)} {oc9 kV9 dc9 pm9 cd9 ct9 : Value}
        (a9 : PySem.W.nsIn K mainGlobals "is_depth" = some (some (.ref f9))) (l9 : K.lookup f9 = some ⟨oc9, od9, .func (PySem.W.fnOf "is_depth" "is_depth" (defArgs st_is_depth) (defBody st_is_depth) (defScope st_is_depth) .none kV9 dc9 pm9 an9 cd9 ct9), sl9⟩) (c9 : PySem.W.codeIn K cd9 "is_depth" = true) (k9 : PySem.W.keepIn K (.ref f9) = true)
    {f10 : Addr} {od10 an10 : Option Addr} {sl10 : Array (Option Value)} {oc10 kV10 dc10 pm10 cd10 ct10 : Value}
        (a10 : PySem.W.nsIn K mainGlobals "look_at_layers" = some (some (.ref f10))) (l10 : K.lookup f10 = some ⟨oc10, od10, .func (PySem.W.fnOf "look_at_layers" "look_at_layers" (defArgs st_look_at_layers) (defBody st_look_at_layers) (defScope st_look_at_layers) .none kV10 dc10 pm10 an10 cd10 ct10), sl10⟩) (c10 : PySem.W.codeIn K cd10 "look_at_layers" = true) (k10 : PySem.W.keepIn K (.ref f10) = true)
    {f11 : Addr} {od11 an11 : Option Addr} {sl11 : Array (Option Value)} {oc11 kV11 dc11 pm11 cd11 ct11 : Value}
        (a11 : PySem.W.nsIn K mainGlobals "layer_for" = some (some (.ref f11))) (l11 : K.lookup f11 = some ⟨oc11, od11, .func (PySem.W.fnOf "layer_for" "layer_for" (defArgs st_layer_for) (defBody st_layer_for) (defScope st_layer_for) .none kV11 dc11 pm11 an11 cd11 ct11), sl11⟩) (c11 : PySem.W.codeIn K cd11 "layer_for" = true) (k11 : PySem.W.keepIn K (.ref f11) = true)
    {f12 : Addr} {od12 an12 : Option Addr} {sl12 : Array (Option Value)} {oc12 kV12 dc12 pm12 cd12 ct12 : Value}
        (a12 : PySem.W.nsIn K mainGlobals "layered" = some (some (.ref f12))) (l12 : K.lookup f12 = some ⟨oc12, od12, .func (PySem.W.fnOf "layered" "layered" (defArgs st_layered) (defBody st_layered) (defScope st_layered) .none kV12 dc12 pm12 an12 cd12 ct12), sl12⟩) (c12 : PySem.W.codeIn K cd12 "layered" = true) (k12 : PySem.W.keepIn K (.ref f12) = true)
    {f13 : Addr} {od13 an13 : Option Addr} {sl13 : Array (Option Value)} {oc13 kV13 dc13 pm13 cd13 ct13 : Value}
        (a13 : PySem.W.nsIn K mainGlobals "is_place" = some (some (.ref f13))) (l13 : K.lookup f13 = some ⟨oc13, od13, .func (PySem.W.fnOf "is_place" "is_place" (defArgs st_is_place) (defBody st_is_place) (defScope st_is_place) .none kV13 dc13 pm13 an13 cd13 ct13), sl13⟩) (c13 : PySem.W.codeIn K cd13 "is_place" = true) (k13 : PySem.W.keepIn K (.ref f13) = true)
    {f14 : Addr} {od14 an14 : Option Addr} {sl14 : Array (Option Value)} {oc14 kV14 dc14 pm14 cd14 ct14 : Value}
        (a14 : PySem.W.nsIn K mainGlobals "look_at_pair" = some (some (.ref f14))) (l14 : K.lookup f14 = some ⟨oc14, od14, .func (PySem.W.fnOf "look_at_pair" "look_at_pair" (defArgs st_look_at_pair) (defBody st_look_at_pair) (defScope st_look_at_pair) .none kV14 dc14 pm14 an14 cd14 ct14), sl14⟩) (c14 : PySem.W.codeIn K cd14 "look_at_pair" = true) (k14 : PySem.W.keepIn K (.ref f14) = true)
    {f15 : Addr} {od15 an15 : Option Addr} {sl15 : Array (Option Value)} {oc15 kV15 dc15 pm15 cd15 ct15 : Value}
        (a15 : PySem.W.nsIn K mainGlobals "told_of" = some (some (.ref f15))) (l15 : K.lookup f15 = some ⟨oc15, od15, .func (PySem.W.fnOf "told_of" "told_of" (defArgs st_told_of) (defBody st_told_of) (defScope st_told_of) .none kV15 dc15 pm15 an15 cd15 ct15), sl15⟩) (c15 : PySem.W.codeIn K cd15 "told_of" = true) (k15 : PySem.W.keepIn K (.ref f15) = true)
    {f16 : Addr} {od16 an16 : Option Addr} {sl16 : Array (Option Value)} {oc16 kV16 dc16 pm16 cd16 ct16 : Value}
        {T16 : Addr} {toc16 : Value} {tod16 : Option Addr} {tsl16 : Array (Option Value)} {tn16 : Nat} {tt16 : Tok}
        (a16 : PySem.W.nsIn K mainGlobals "hang_of" = some (some (.ref f16))) (l16 : K.lookup f16 = some ⟨oc16, od16, .func (PySem.W.fnOf "hang_of" "hang_of" (defArgs st_hang_of) (defBody st_hang_of) (defScope st_hang_of) (.ref T16) kV16 dc16 pm16 an16 cd16 ct16), sl16⟩) (c16 : PySem.W.codeIn K cd16 "hang_of" = true) (k16 : PySem.W.keepIn K (.ref f16) = true)
        (e16 : K.lookup T16 = some ⟨toc16, tod16, .seq #[.int (0) tt16] tn16, tsl16⟩)
    {f17 : Addr} {od17 an17 : Option Addr} {sl17 : Array (Option Value)} {oc17 kV17 dc17 pm17 cd17 ct17 : Value}
        (a17 : PySem.W.nsIn K mainGlobals "others_of" = some (some (.ref f17))) (l17 : K.lookup f17 = some ⟨oc17, od17, .func (PySem.W.fnOf "others_of" "others_of" (defArgs st_others_of) (defBody st_others_of) (defScope st_others_of) .none kV17 dc17 pm17 an17 cd17 ct17), sl17⟩) (c17 : PySem.W.codeIn K cd17 "others_of" = true) (k17 : PySem.W.keepIn K (.ref f17) = true)
    {f18 : Addr} {od18 an18 : Option Addr} {sl18 : Array (Option Value)} {oc18 kV18 dc18 pm18 cd18 ct18 : Value}
        (a18 : PySem.W.nsIn K mainGlobals "pared_ties" = some (some (.ref f18))) (l18 : K.lookup f18 = some ⟨oc18, od18, .func (PySem.W.fnOf "pared_ties" "pared_ties" (defArgs st_pared_ties) (defBody st_pared_ties) (defScope st_pared_ties) .none kV18 dc18 pm18 an18 cd18 ct18), sl18⟩) (c18 : PySem.W.codeIn K cd18 "pared_ties" = true) (k18 : PySem.W.keepIn K (.ref f18) = true)
    {f19 : Addr} {od19 an19 : Option Addr} {sl19 : Array (Option Value)} {oc19 kV19 dc19 pm19 cd19 ct19 : Value}
        (a19 : PySem.W.nsIn K mainGlobals "ways_for" = some (some (.ref f19))) (l19 : K.lookup f19 = some ⟨oc19, od19, .func (PySem.W.fnOf "ways_for" "ways_for" (defArgs st_ways_for) (defBody st_ways_for) (defScope st_ways_for) .none kV19 dc19 pm19 an19 cd19 ct19), sl19⟩) (c19 : PySem.W.codeIn K cd19 "ways_for" = true) (k19 : PySem.W.keepIn K (.ref f19) = true)
    {f20 : Addr} {od20 an20 : Option Addr} {sl20 : Array (Option Value)} {oc20 kV20 dc20 pm20 cd20 ct20 : Value}
        (a20 : PySem.W.nsIn K mainGlobals "side_for" = some (some (.ref f20))) (l20 : K.lookup f20 = some ⟨oc20, od20, .func (PySem.W.fnOf "side_for" "side_for" (defArgs st_side_for) (defBody st_side_for) (defScope st_side_for) .none kV20 dc20 pm20 an20 cd20 ct20), sl20⟩) (c20 : PySem.W.codeIn K cd20 "side_for" = true) (k20 : PySem.W.keepIn K (.ref f20) = true)
    {f21 : Addr} {od21 an21 : Option Addr} {sl21 : Array (Option Value)} {oc21 kV21 dc21 pm21 cd21 ct21 : Value}
        (a21 : PySem.W.nsIn K mainGlobals "pared" = some (some (.ref f21))) (l21 : K.lookup f21 = some ⟨oc21, od21, .func (PySem.W.fnOf "pared" "pared" (defArgs st_pared) (defBody st_pared) (defScope st_pared) .none kV21 dc21 pm21 an21 cd21 ct21), sl21⟩) (c21 : PySem.W.codeIn K cd21 "pared" = true) (k21 : PySem.W.keepIn K (.ref f21) = true)
    {f22 : Addr} {od22 an22 : Option Addr} {sl22 : Array (Option Value)} {oc22 kV22 dc22 pm22 cd22 ct22 : Value}
        (a22 : PySem.W.nsIn K mainGlobals "_law_cell_at" = some (some (.ref f22))) (l22 : K.lookup f22 = some ⟨oc22, od22, .func (PySem.W.fnOf "_law_cell_at" "_law_cell_at" (defArgs st_l_cell_at) (defBody st_l_cell_at) (defScope st_l_cell_at) .none kV22 dc22 pm22 an22 cd22 ct22), sl22⟩) (c22 : PySem.W.codeIn K cd22 "_law_cell_at" = true) (k22 : PySem.W.keepIn K (.ref f22) = true)
    {f23 : Addr} {od23 an23 : Option Addr} {sl23 : Array (Option Value)} {oc23 kV23 dc23 pm23 cd23 ct23 : Value}
        (a23 : PySem.W.nsIn K mainGlobals "_law_pool" = some (some (.ref f23))) (l23 : K.lookup f23 = some ⟨oc23, od23, .func (PySem.W.fnOf "_law_pool" "_law_pool" (defArgs st_l_pool) (defBody st_l_pool) (defScope st_l_pool) .none kV23 dc23 pm23 an23 cd23 ct23), sl23⟩) (c23 : PySem.W.codeIn K cd23 "_law_pool" = true) (k23 : PySem.W.keepIn K (.ref f23) = true)
    {f24 : Addr} {od24 an24 : Option Addr} {sl24 : Array (Option Value)} {oc24 kV24 dc24 pm24 cd24 ct24 : Value}
        (a24 : PySem.W.nsIn K mainGlobals "_law_take" = some (some (.ref f24))) (l24 : K.lookup f24 = some ⟨oc24, od24, .func (PySem.W.fnOf "_law_take" "_law_take" (defArgs st_l_take) (defBody st_l_take) (defScope st_l_take) .none kV24 dc24 pm24 an24 cd24 ct24), sl24⟩) (c24 : PySem.W.codeIn K cd24 "_law_take" = true) (k24 : PySem.W.keepIn K (.ref f24) = true)
    {f25 : Addr} {od25 an25 : Option Addr} {sl25 : Array (Option Value)} {oc25 kV25 dc25 pm25 cd25 ct25 : Value}
        (a25 : PySem.W.nsIn K mainGlobals "_law_record" = some (some (.ref f25))) (l25 : K.lookup f25 = some ⟨oc25, od25, .func (PySem.W.fnOf "_law_record" "_law_record" (defArgs st_l_record) (defBody st_l_record) (defScope st_l_record) .none kV25 dc25 pm25 an25 cd25 ct25), sl25⟩) (c25 : PySem.W.codeIn K cd25 "_law_record" = true) (k25 : PySem.W.keepIn K (.ref f25) = true)
    {f26 : Addr} {od26 an26 : Option Addr} {sl26 : Array (Option Value)} {oc26 kV26 dc26 pm26 cd26 ct26 : Value}
        (a26 : PySem.W.nsIn K mainGlobals "_law_rim" = some (some (.ref f26))) (l26 : K.lookup f26 = some ⟨oc26, od26, .func (PySem.W.fnOf "_law_rim" "_law_rim" (defArgs st_l_rim) (defBody st_l_rim) (defScope st_l_rim) .none kV26 dc26 pm26 an26 cd26 ct26), sl26⟩) (c26 : PySem.W.codeIn K cd26 "_law_rim" = true) (k26 : PySem.W.keepIn K (.ref f26) = true)
    {f27 : Addr} {od27 an27 : Option Addr} {sl27 : Array (Option Value)} {oc27 kV27 dc27 pm27 cd27 ct27 : Value}
        (a27 : PySem.W.nsIn K mainGlobals "_law_sides" = some (some (.ref f27))) (l27 : K.lookup f27 = some ⟨oc27, od27, .func (PySem.W.fnOf "_law_sides" "_law_sides" (defArgs st_l_sides) (defBody st_l_sides) (defScope st_l_sides) .none kV27 dc27 pm27 an27 cd27 ct27), sl27⟩) (c27 : PySem.W.codeIn K cd27 "_law_sides" = true) (k27 : PySem.W.keepIn K (.ref f27) = true)
    {f28 : Addr} {od28 an28 : Option Addr} {sl28 : Array (Option Value)} {oc28 kV28 dc28 pm28 cd28 ct28 : Value}
        (a28 : PySem.W.nsIn K mainGlobals "law" = some (some (.ref f28))) (l28 : K.lookup f28 = some ⟨oc28, od28, .func (PySem.W.fnOf "law" "law" (defArgs st_law) (defBody st_law) (defScope st_law) .none kV28 dc28 pm28 an28 cd28 ct28), sl28⟩) (c28 : PySem.W.codeIn K cd28 "law" = true) (k28 : PySem.W.keepIn K (.ref f28) = true)
        (z_len : PySem.W.nsIn K mainGlobals "len" = some none)
        (z_tuple : PySem.W.nsIn K mainGlobals "tuple" = some none)
        (z_range : PySem.W.nsIn K mainGlobals "range" = some none)
        (z_isinstance : PySem.W.nsIn K mainGlobals "isinstance" = some none)
        (z_int : PySem.W.nsIn K mainGlobals "int" = some none)
        (z_bool : PySem.W.nsIn K mainGlobals "bool" = some none)
        (z_min : PySem.W.nsIn K mainGlobals "min" = some none)
        (z_max : PySem.W.nsIn K mainGlobals "max" = some none)
        (z_enumerate : PySem.W.nsIn K mainGlobals "enumerate" = some none)
        (z_list : PySem.W.nsIn K mainGlobals "list" = some none)
        (z_reversed : PySem.W.nsIn K mainGlobals "reversed" = some none)
        (z_all : PySem.W.nsIn K mainGlobals "all" = some none)
        {tk_MOST_LAYERS : Tok} (y_MOST_LAYERS : PySem.W.nsIn K mainGlobals "MOST_LAYERS" = some (some (.int (6) tk_MOST_LAYERS))) : Tx K mg where
  a_can_go := f0
  d_can_go := _
  F_can_go := fun_mk (st := st_can_go) l0 c0 k0
  m_can_go := PySem.W.mg_of X G a0
  b_can_go := (fun_mk (st := st_can_go) l0 c0 k0).binds fun _ _ _ _ _ _ us hl => match us, hl with | [_, _, _], _ => rfl
  a_spread := f1
  d_spread := _
  F_spread := fun_mk (st := st_spread) l1 c1 k1
  m_spread := PySem.W.mg_of X G a1
  b_spread := (fun_mk (st := st_spread) l1 c1 k1).binds fun _ _ _ _ _ _ us hl => match us, hl with | [_, _, _, _], _ => rfl
  a_push := f2
  d_push := _
  F_push := fun_mk (st := st_push) l2 c2 k2
  m_push := PySem.W.mg_of X G a2
  b_push := (fun_mk (st := st_push) l2 c2 k2).binds fun _ _ _ _ _ _ us hl => match us, hl with | [_, _, _], _ => rfl
  a_next_tie := f3
  d_next_tie := _
  F_next_tie := fun_mk (st := st_next_tie) l3 c3 k3
  m_next_tie := PySem.W.mg_of X G a3
  b_next_tie := (fun_mk (st := st_next_tie) l3 c3 k3).binds fun _ _ _ _ _ _ us hl => match us, hl with | [_, _, _], _ => rfl
  a_one_way := f4
  d_one_way := _
  F_one_way := fun_mk (st := st_one_way) l4 c4 k4
  m_one_way := PySem.W.mg_of X G a4
  b_one_way := (fun_mk (st := st_one_way) l4 c4 k4).binds fun _ _ _ _ _ _ us hl => match us, hl with | [_, _, _, _], _ => rfl
  a_ways_and_side := f5
  d_ways_and_side := _
  F_ways_and_side := fun_mk (st := st_ways_and_side) l5 c5 k5
  m_ways_and_side := PySem.W.mg_of X G a5
  b_ways_and_side := (fun_mk (st := st_ways_and_side) l5 c5 k5).binds fun _ _ _ _ _ _ us hl => match us, hl with | [_, _, _, _, _], _ => rfl
  a_is_whole := f6
  d_is_whole := _
  F_is_whole := fun_mk (st := st_is_whole) l6 c6 k6
  m_is_whole := PySem.W.mg_of X G a6
  b_is_whole := (fun_mk (st := st_is_whole) l6 c6 k6).binds fun _ _ _ _ _ _ us hl => match us, hl with | [_], _ => rfl
  a_since := f7
  d_since := _
  F_since := fun_mk (st := st_since) l7 c7 k7
  m_since := PySem.W.mg_of X G a7
  b_since := (fun_mk (st := st_since) l7 c7 k7).binds fun _ _ _ _ _ _ us hl => match us, hl with | [_, _], _ => rfl
  a_joined := f8
  d_joined := _
  F_joined := fun_mk (st := st_joined) l8 c8 k8
  m_joined := PySem.W.mg_of X G a8
  b_joined := (fun_mk (st := st_joined) l8 c8 k8).binds fun _ _ _ _ _ _ us hl => match us, hl with | [_, _, _], _ => rfl
  a_is_depth := f9
  d_is_depth := _
  F_is_depth := fun_mk (st := st_is_depth) l9 c9 k9
  m_is_depth := PySem.W.mg_of X G a9
  b_is_depth := (fun_mk (st := st_is_depth) l9 c9 k9).binds fun _ _ _ _ _ _ us hl => match us, hl with | [_], _ => rfl
  a_look_at_layers := f10
  d_look_at_layers := _
  F_look_at_layers := fun_mk (st := st_look_at_layers) l10 c10 k10
  m_look_at_layers := PySem.W.mg_of X G a10
  b_look_at_layers := (fun_mk (st := st_look_at_layers) l10 c10 k10).binds fun _ _ _ _ _ _ us hl => match us, hl with | [_], _ => rfl
  a_layer_for := f11
  d_layer_for := _
  F_layer_for := fun_mk (st := st_layer_for) l11 c11 k11
  m_layer_for := PySem.W.mg_of X G a11
  b_layer_for := (fun_mk (st := st_layer_for) l11 c11 k11).binds fun _ _ _ _ _ _ us hl => match us, hl with | [_, _, _], _ => rfl
  a_layered := f12
  d_layered := _
  F_layered := fun_mk (st := st_layered) l12 c12 k12
  m_layered := PySem.W.mg_of X G a12
  b_layered := (fun_mk (st := st_layered) l12 c12 k12).binds fun _ _ _ _ _ _ us hl => match us, hl with | [_, _, _], _ => rfl
  a_is_place := f13
  d_is_place := _
  F_is_place := fun_mk (st := st_is_place) l13 c13 k13
  m_is_place := PySem.W.mg_of X G a13
  b_is_place := (fun_mk (st := st_is_place) l13 c13 k13).binds fun _ _ _ _ _ _ us hl => match us, hl with | [_, _], _ => rfl
  a_look_at_pair := f14
  d_look_at_pair := _
  F_look_at_pair := fun_mk (st := st_look_at_pair) l14 c14 k14
  m_look_at_pair := PySem.W.mg_of X G a14
  b_look_at_pair := (fun_mk (st := st_look_at_pair) l14 c14 k14).binds fun _ _ _ _ _ _ us hl => match us, hl with | [_, _, _], _ => rfl
  a_told_of := f15
  d_told_of := _
  F_told_of := fun_mk (st := st_told_of) l15 c15 k15
  m_told_of := PySem.W.mg_of X G a15
  b_told_of := (fun_mk (st := st_told_of) l15 c15 k15).binds fun _ _ _ _ _ _ us hl => match us, hl with | [_, _, _, _, _], _ => rfl
  a_hang_of := f16
  d_hang_of := _
  F_hang_of := ⟨⟨_, _, _, _, _, _, _, _, _, _, rfl, l16, c16, dflI e16 rfl, .inl rfl⟩, k16⟩
  m_hang_of := PySem.W.mg_of X G a16
  b_hang_of := bindsD (dvs := [V.int (0)]) (kws := []) (f := f16) (params := defArgs st_hang_of) (body := defBody st_hang_of) (scope := defScope st_hang_of) ⟨⟨_, _, _, _, _, _, _, _, _, _, rfl, l16, c16, dflI e16 rfl, .inl rfl⟩, k16⟩ (fun z => nomatch z) fun _ _ _ _ _ _ _ us its h1 h2 => match us, h1, its, h2 with | [_, _, _, _, _, _], _, [_], _ => ⟨_, rfl, rfl⟩
  a_others_of := f17
  d_others_of := _
  F_others_of := fun_mk (st := st_others_of) l17 c17 k17
  m_others_of := PySem.W.mg_of X G a17
  b_others_of := (fun_mk (st := st_others_of) l17 c17 k17).binds fun _ _ _ _ _ _ us hl => match us, hl with | [_, _], _ => rfl
  a_pared_ties := f18
  d_pared_ties := _
  F_pared_ties := fun_mk (st := st_pared_ties) l18 c18 k18
  m_pared_ties := PySem.W.mg_of X G a18
  b_pared_ties := (fun_mk (st := st_pared_ties) l18 c18 k18).binds fun _ _ _ _ _ _ us hl => match us, hl with | [_, _, _], _ => rfl
  a_ways_for := f19
  d_ways_for := _
  F_ways_for := fun_mk (st := st_ways_for) l19 c19 k19
  m_ways_for := PySem.W.mg_of X G a19
  b_ways_for := (fun_mk (st := st_ways_for) l19 c19 k19).binds fun _ _ _ _ _ _ us hl => match us, hl with | [_, _, _, _], _ => rfl
  a_side_for := f20
  d_side_for := _
  F_side_for := fun_mk (st := st_side_for) l20 c20 k20
  m_side_for := PySem.W.mg_of X G a20
  b_side_for := (fun_mk (st := st_side_for) l20 c20 k20).binds fun _ _ _ _ _ _ us hl => match us, hl with | [_, _, _, _], _ => rfl
  a_pared := f21
  d_pared := _
  F_pared := fun_mk (st := st_pared) l21 c21 k21
  m_pared := PySem.W.mg_of X G a21
  b_pared := (fun_mk (st := st_pared) l21 c21 k21).binds fun _ _ _ _ _ _ us hl => match us, hl with | [_, _, _], _ => rfl
  a_l_cell_at := f22
  d_l_cell_at := _
  F_l_cell_at := fun_mk (st := st_l_cell_at) l22 c22 k22
  m_l_cell_at := PySem.W.mg_of X G a22
  b_l_cell_at := (fun_mk (st := st_l_cell_at) l22 c22 k22).binds fun _ _ _ _ _ _ us hl => match us, hl with | [_, _], _ => rfl
  a_l_pool := f23
  d_l_pool := _
  F_l_pool := fun_mk (st := st_l_pool) l23 c23 k23
  m_l_pool := PySem.W.mg_of X G a23
  b_l_pool := (fun_mk (st := st_l_pool) l23 c23 k23).binds fun _ _ _ _ _ _ us hl => match us, hl with | [_, _], _ => rfl
  a_l_take := f24
  d_l_take := _
  F_l_take := fun_mk (st := st_l_take) l24 c24 k24
  m_l_take := PySem.W.mg_of X G a24
  b_l_take := (fun_mk (st := st_l_take) l24 c24 k24).binds fun _ _ _ _ _ _ us hl => match us, hl with | [_, _], _ => rfl
  a_l_record := f25
  d_l_record := _
  F_l_record := fun_mk (st := st_l_record) l25 c25 k25
  m_l_record := PySem.W.mg_of X G a25
  b_l_record := (fun_mk (st := st_l_record) l25 c25 k25).binds fun _ _ _ _ _ _ us hl => match us, hl with | [_, _, _], _ => rfl
  a_l_rim := f26
  d_l_rim := _
  F_l_rim := fun_mk (st := st_l_rim) l26 c26 k26
  m_l_rim := PySem.W.mg_of X G a26
  b_l_rim := (fun_mk (st := st_l_rim) l26 c26 k26).binds fun _ _ _ _ _ _ us hl => match us, hl with | [_, _], _ => rfl
  a_l_sides := f27
  d_l_sides := _
  F_l_sides := fun_mk (st := st_l_sides) l27 c27 k27
  m_l_sides := PySem.W.mg_of X G a27
  b_l_sides := (fun_mk (st := st_l_sides) l27 c27 k27).binds fun _ _ _ _ _ _ us hl => match us, hl with | [_], _ => rfl
  a_law := f28
  d_law := _
  F_law := fun_mk (st := st_law) l28 c28 k28
  m_law := PySem.W.mg_of X G a28
  b_law := (fun_mk (st := st_law) l28 c28 k28).binds fun _ _ _ _ _ _ us hl => match us, hl with | [_], _ => rfl
  n_len := PySem.W.mg_none_of X G z_len
  n_tuple := PySem.W.mg_none_of X G z_tuple
  n_range := PySem.W.mg_none_of X G z_range
  n_isinstance := PySem.W.mg_none_of X G z_isinstance
  n_int := PySem.W.mg_none_of X G z_int
  n_bool := PySem.W.mg_none_of X G z_bool
  n_min := PySem.W.mg_none_of X G z_min
  n_max := PySem.W.mg_none_of X G z_max
  n_enumerate := PySem.W.mg_none_of X G z_enumerate
  n_list := PySem.W.mg_none_of X G z_list
  n_reversed := PySem.W.mg_none_of X G z_reversed
  n_all := PySem.W.mg_none_of X G z_all
  c_MOST_LAYERS := ⟨tk_MOST_LAYERS, PySem.W.mg_of X G y_MOST_LAYERS⟩
theorem all_mk {l : PySem.W.OpenLaw} {fa : Addr} (X : K.In h) (G : h.Ns mainGlobals mg) (hfa : mg "law" = some (.ref fa))
    {f0 : Addr} {od0 an0 : Option Addr} {sl0 : Array (Option Value)} {oc0 kV0 dc0 pm0 cd0 ct0 : Value}
        (a0 : PySem.W.nsIn K mainGlobals "can_go" = some (some (.ref f0))) (l0 : K.lookup f0 = some ⟨oc0, od0, .func (PySem.W.fnOf "can_go" "can_go" (defArgs st_can_go) (defBody st_can_go) (defScope st_can_go) .none kV0 dc0 pm0 an0 cd0 ct0), sl0⟩) (c0 : PySem.W.codeIn K cd0 "can_go" = true) (k0 : PySem.W.keepIn K (.ref f0) = true)
    {f1 : Addr} {od1 an1 : Option Addr} {sl1 : Array (Option Value)} {oc1 kV1 dc1 pm1 cd1 ct1 : Value}
        (a1 : PySem.W.nsIn K mainGlobals "spread" = some (some (.ref f1))) (l1 : K.lookup f1 = some ⟨oc1, od1, .func (PySem.W.fnOf "spread" "spread" (defArgs st_spread) (defBody st_spread) (defScope st_spread) .none kV1 dc1 pm1 an1 cd1 ct1), sl1⟩) (c1 : PySem.W.codeIn K cd1 "spread" = true) (k1 : PySem.W.keepIn K (.ref f1) = true)
    {f2 : Addr} {od2 an2 : Option Addr} {sl2 : Array (Option Value)} {oc2 kV2 dc2 pm2 cd2 ct2 : Value}
        (a2 : PySem.W.nsIn K mainGlobals "push" = some (some (.ref f2))) (l2 : K.lookup f2 = some ⟨oc2, od2, .func (PySem.W.fnOf "push" "push" (defArgs st_push) (defBody st_push) (defScope st_push) .none kV2 dc2 pm2 an2 cd2 ct2), sl2⟩) (c2 : PySem.W.codeIn K cd2 "push" = true) (k2 : PySem.W.keepIn K (.ref f2) = true)
    {f3 : Addr} {od3 an3 : Option Addr} {sl3 : Array (Option Value)} {oc3 kV3 dc3 pm3 cd3 ct3 : Value}
        (a3 : PySem.W.nsIn K mainGlobals "next_tie" = some (some (.ref f3))) (l3 : K.lookup f3 = some ⟨oc3, od3, .func (PySem.W.fnOf "next_tie" "next_tie" (defArgs st_next_tie) (defBody st_next_tie) (defScope st_next_tie) .none kV3 dc3 pm3 an3 cd3 ct3), sl3⟩) (c3 : PySem.W.codeIn K cd3 "next_tie" = true) (k3 : PySem.W.keepIn K (.ref f3) = true)
    {f4 : Addr} {od4 an4 : Option Addr} {sl4 : Array (Option Value)} {oc4 kV4 dc4 pm4 cd4 ct4 : Value}
        (a4 : PySem.W.nsIn K mainGlobals "one_way" = some (some (.ref f4))) (l4 : K.lookup f4 = some ⟨oc4, od4, .func (PySem.W.fnOf "one_way" "one_way" (defArgs st_one_way) (defBody st_one_way) (defScope st_one_way) .none kV4 dc4 pm4 an4 cd4 ct4), sl4⟩) (c4 : PySem.W.codeIn K cd4 "one_way" = true) (k4 : PySem.W.keepIn K (.ref f4) = true)
    {f5 : Addr} {od5 an5 : Option Addr} {sl5 : Array (Option Value)} {oc5 kV5 dc5 pm5 cd5 ct5 : Value}
        (a5 : PySem.W.nsIn K mainGlobals "ways_and_side" = some (some (.ref f5))) (l5 : K.lookup f5 = some ⟨oc5, od5, .func (PySem.W.fnOf "ways_and_side" "ways_and_side" (defArgs st_ways_and_side) (defBody st_ways_and_side) (defScope st_ways_and_side) .none kV5 dc5 pm5 an5 cd5 ct5), sl5⟩) (c5 : PySem.W.codeIn K cd5 "ways_and_side" = true) (k5 : PySem.W.keepIn K (.ref f5) = true)
    {f6 : Addr} {od6 an6 : Option Addr} {sl6 : Array (Option Value)} {oc6 kV6 dc6 pm6 cd6 ct6 : Value}
        (a6 : PySem.W.nsIn K mainGlobals "is_whole" = some (some (.ref f6))) (l6 : K.lookup f6 = some ⟨oc6, od6, .func (PySem.W.fnOf "is_whole" "is_whole" (defArgs st_is_whole) (defBody st_is_whole) (defScope st_is_whole) .none kV6 dc6 pm6 an6 cd6 ct6), sl6⟩) (c6 : PySem.W.codeIn K cd6 "is_whole" = true) (k6 : PySem.W.keepIn K (.ref f6) = true)
    {f7 : Addr} {od7 an7 : Option Addr} {sl7 : Array (Option Value)} {oc7 kV7 dc7 pm7 cd7 ct7 : Value}
        (a7 : PySem.W.nsIn K mainGlobals "since" = some (some (.ref f7))) (l7 : K.lookup f7 = some ⟨oc7, od7, .func (PySem.W.fnOf "since" "since" (defArgs st_since) (defBody st_since) (defScope st_since) .none kV7 dc7 pm7 an7 cd7 ct7), sl7⟩) (c7 : PySem.W.codeIn K cd7 "since" = true) (k7 : PySem.W.keepIn K (.ref f7) = true)
    {f8 : Addr} {od8 an8 : Option Addr} {sl8 : Array (Option Value)} {oc8 kV8 dc8 pm8 cd8 ct8 : Value}
        (a8 : PySem.W.nsIn K mainGlobals "joined" = some (some (.ref f8))) (l8 : K.lookup f8 = some ⟨oc8, od8, .func (PySem.W.fnOf "joined" "joined" (defArgs st_joined) (defBody st_joined) (defScope st_joined) .none kV8 dc8 pm8 an8 cd8 ct8), sl8⟩) (c8 : PySem.W.codeIn K cd8 "joined" = true) (k8 : PySem.W.keepIn K (.ref f8) = true)
    {f9 : Addr} {od9 an9 : Option Addr} {sl9 : Array (Option Value)} {oc9 kV9 dc9 pm9 cd9 ct9 : Value}
        (a9 : PySem.W.nsIn K mainGlobals "is_depth" = some (some (.ref f9))) (l9 : K.lookup f9 = some ⟨oc9, od9, .func (PySem.W.fnOf "is_depth" "is_depth" (defArgs st_is_depth) (defBody st_is_depth) (defScope st_is_depth) .none kV9 dc9 pm9 an9 cd9 ct9), sl9⟩) (c9 : PySem.W.codeIn K cd9 "is_depth" = true) (k9 : PySem.W.keepIn K (.ref f9) = true)
    {f10 : Addr} {od10 an10 : Option Addr} {sl10 : Array (Option Value)} {oc10 kV10 dc10 pm10 cd10 ct10 : Value}
        (a10 : PySem.W.nsIn K mainGlobals "look_at_layers" = some (some (.ref f10))) (l10 : K.lookup f10 = some ⟨oc10, od10, .func (PySem.W.fnOf "look_at_layers" "look_at_layers" (defArgs st_look_at_layers) (defBody st_look_at_layers) (defScope st_look_at_layers) .none kV10 dc10 pm10 an10 cd10 ct10), sl10⟩) (c10 : PySem.W.codeIn K cd10 "look_at_layers" = true) (k10 : PySem.W.keepIn K (.ref f10) = true)
    {f11 : Addr} {od11 an11 : Option Addr} {sl11 : Array (Option Value)} {oc11 kV11 dc11 pm11 cd11 ct11 : Value}
        (a11 : PySem.W.nsIn K mainGlobals "layer_for" = some (some (.ref f11))) (l11 : K.lookup f11 = some ⟨oc11, od11, .func (PySem.W.fnOf "layer_for" "layer_for" (defArgs st_layer_for) (defBody st_layer_for) (defScope st_layer_for) .none kV11 dc11 pm11 an11 cd11 ct11), sl11⟩) (c11 : PySem.W.codeIn K cd11 "layer_for" = true) (k11 : PySem.W.keepIn K (.ref f11) = true)
    {f12 : Addr} {od12 an12 : Option Addr} {sl12 : Array (Option Value)} {oc12 kV12 dc12 pm12 cd12 ct12 : Value}
        (a12 : PySem.W.nsIn K mainGlobals "layered" = some (some (.ref f12))) (l12 : K.lookup f12 = some ⟨oc12, od12, .func (PySem.W.fnOf "layered" "layered" (defArgs st_layered) (defBody st_layered) (defScope st_layered) .none kV12 dc12 pm12 an12 cd12 ct12), sl12⟩) (c12 : PySem.W.codeIn K cd12 "layered" = true) (k12 : PySem.W.keepIn K (.ref f12) = true)
    {f13 : Addr} {od13 an13 : Option Addr} {sl13 : Array (Option Value)} {oc13 kV13 dc13 pm13 cd13 ct13 : Value}
        (a13 : PySem.W.nsIn K mainGlobals "is_place" = some (some (.ref f13))) (l13 : K.lookup f13 = some ⟨oc13, od13, .func (PySem.W.fnOf "is_place" "is_place" (defArgs st_is_place) (defBody st_is_place) (defScope st_is_place) .none kV13 dc13 pm13 an13 cd13 ct13), sl13⟩) (c13 : PySem.W.codeIn K cd13 "is_place" = true) (k13 : PySem.W.keepIn K (.ref f13) = true)
    {f14 : Addr} {od14 an14 : Option Addr} {sl14 : Array (Option Value)} {oc14 kV14 dc14 pm14 cd14 ct14 : Value}
        (a14 : PySem.W.nsIn K mainGlobals "look_at_pair" = some (some (.ref f14))) (l14 : K.lookup f14 = some ⟨oc14, od14, .func (PySem.W.fnOf "look_at_pair" "look_at_pair" (defArgs st_look_at_pair) (defBody st_look_at_pair) (defScope st_look_at_pair) .none kV14 dc14 pm14 an14 cd14 ct14), sl14⟩) (c14 : PySem.W.codeIn K cd14 "look_at_pair" = true) (k14 : PySem.W.keepIn K (.ref f14) = true)
    {f15 : Addr} {od15 an15 : Option Addr} {sl15 : Array (Option Value)} {oc15 kV15 dc15 pm15 cd15 ct15 : Value}
        (a15 : PySem.W.nsIn K mainGlobals "told_of" = some (some (.ref f15))) (l15 : K.lookup f15 = some ⟨oc15, od15, .func (PySem.W.fnOf "told_of" "told_of" (defArgs st_told_of) (defBody st_told_of) (defScope st_told_of) .none kV15 dc15 pm15 an15 cd15 ct15), sl15⟩) (c15 : PySem.W.codeIn K cd15 "told_of" = true) (k15 : PySem.W.keepIn K (.ref f15) = true)
    {f16 : Addr} {od16 an16 : Option Addr} {sl16 : Array (Option Value)} {oc16 kV16 dc16 pm16 cd16 ct16 : Value}
        {T16 : Addr} {toc16 : Value} {tod16 : Option Addr} {tsl16 : Array (Option Value)} {tn16 : Nat} {tt16 : Tok}
        (a16 : PySem.W.nsIn K mainGlobals "hang_of" = some (some (.ref f16))) (l16 : K.lookup f16 = some ⟨oc16, od16, .func (PySem.W.fnOf "hang_of" "hang_of" (defArgs st_hang_of) (defBody st_hang_of) (defScope st_hang_of) (.ref T16) kV16 dc16 pm16 an16 cd16 ct16), sl16⟩) (c16 : PySem.W.codeIn K cd16 "hang_of" = true) (k16 : PySem.W.keepIn K (.ref f16) = true)
        (e16 : K.lookup T16 = some ⟨toc16, tod16, .seq #[.int (0) tt16] tn16, tsl16⟩)
    {f17 : Addr} {od17 an17 : Option Addr} {sl17 : Array (Option Value)} {oc17 kV17 dc17 pm17 cd17 ct17 : Value}
        (a17 : PySem.W.nsIn K mainGlobals "others_of" = some (some (.ref f17))) (l17 : K.lookup f17 = some ⟨oc17, od17, .func (PySem.W.fnOf "others_of" "others_of" (defArgs st_others_of) (defBody st_others_of) (defScope st_others_of) .none kV17 dc17 pm17 an17 cd17 ct17), sl17⟩) (c17 : PySem.W.codeIn K cd17 "others_of" = true) (k17 : PySem.W.keepIn K (.ref f17) = true)
    {f18 : Addr} {od18 an18 : Option Addr} {sl18 : Array (Option Value)} {oc18 kV18 dc18 pm18 cd18 ct18 : Value}
        (a18 : PySem.W.nsIn K mainGlobals "pared_ties" = some (some (.ref f18))) (l18 : K.lookup f18 = some ⟨oc18, od18, .func (PySem.W.fnOf "pared_ties" "pared_ties" (defArgs st_pared_ties) (defBody st_pared_ties) (defScope st_pared_ties) .none kV18 dc18 pm18 an18 cd18 ct18), sl18⟩) (c18 : PySem.W.codeIn K cd18 "pared_ties" = true) (k18 : PySem.W.keepIn K (.ref f18) = true)
    {f19 : Addr} {od19 an19 : Option Addr} {sl19 : Array (Option Value)} {oc19 kV19 dc19 pm19 cd19 ct19 : Value}
        (a19 : PySem.W.nsIn K mainGlobals "ways_for" = some (some (.ref f19))) (l19 : K.lookup f19 = some ⟨oc19, od19, .func (PySem.W.fnOf "ways_for" "ways_for" (defArgs st_ways_for) (defBody st_ways_for) (defScope st_ways_for) .none kV19 dc19 pm19 an19 cd19 ct19), sl19⟩) (c19 : PySem.W.codeIn K cd19 "ways_for" = true) (k19 : PySem.W.keepIn K (.ref f19) = true)
    {f20 : Addr} {od20 an20 : Option Addr} {sl20 : Array (Option Value)} {oc20 kV20 dc20 pm20 cd20 ct20 : Value}
        (a20 : PySem.W.nsIn K mainGlobals "side_for" = some (some (.ref f20))) (l20 : K.lookup f20 = some ⟨oc20, od20, .func (PySem.W.fnOf "side_for" "side_for" (defArgs st_side_for) (defBody st_side_for) (defScope st_side_for) .none kV20 dc20 pm20 an20 cd20 ct20), sl20⟩) (c20 : PySem.W.codeIn K cd20 "side_for" = true) (k20 : PySem.W.keepIn K (.ref f20) = true)
    {f21 : Addr} {od21 an21 : Option Addr} {sl21 : Array (Option Value)} {oc21 kV21 dc21 pm21 cd21 ct21 : Value}
        (a21 : PySem.W.nsIn K mainGlobals "pared" = some (some (.ref f21))) (l21 : K.lookup f21 = some ⟨oc21, od21, .func (PySem.W.fnOf "pared" "pared" (defArgs st_pared) (defBody st_pared) (defScope st_pared) .none kV21 dc21 pm21 an21 cd21 ct21), sl21⟩) (c21 : PySem.W.codeIn K cd21 "pared" = true) (k21 : PySem.W.keepIn K (.ref f21) = true)
    {f22 : Addr} {od22 an22 : Option Addr} {sl22 : Array (Option Value)} {oc22 kV22 dc22 pm22 cd22 ct22 : Value}
        (a22 : PySem.W.nsIn K mainGlobals "_law_cell_at" = some (some (.ref f22))) (l22 : K.lookup f22 = some ⟨oc22, od22, .func (PySem.W.fnOf "_law_cell_at" "_law_cell_at" (defArgs st_l_cell_at) (defBody st_l_cell_at) (defScope st_l_cell_at) .none kV22 dc22 pm22 an22 cd22 ct22), sl22⟩) (c22 : PySem.W.codeIn K cd22 "_law_cell_at" = true) (k22 : PySem.W.keepIn K (.ref f22) = true)
    {f23 : Addr} {od23 an23 : Option Addr} {sl23 : Array (Option Value)} {oc23 kV23 dc23 pm23 cd23 ct23 : Value}
        (a23 : PySem.W.nsIn K mainGlobals "_law_pool" = some (some (.ref f23))) (l23 : K.lookup f23 = some ⟨oc23, od23, .func (PySem.W.fnOf "_law_pool" "_law_pool" (defArgs st_l_pool) (defBody st_l_pool) (defScope st_l_pool) .none kV23 dc23 pm23 an23 cd23 ct23), sl23⟩) (c23 : PySem.W.codeIn K cd23 "_law_pool" = true) (k23 : PySem.W.keepIn K (.ref f23) = true)
    {f24 : Addr} {od24 an24 : Option Addr} {sl24 : Array (Option Value)} {oc24 kV24 dc24 pm24 cd24 ct24 : Value}
        (a24 : PySem.W.nsIn K mainGlobals "_law_take" = some (some (.ref f24))) (l24 : K.lookup f24 = some ⟨oc24, od24, .func (PySem.W.fnOf "_law_take" "_law_take" (defArgs st_l_take) (defBody st_l_take) (defScope st_l_take) .none kV24 dc24 pm24 an24 cd24 ct24), sl24⟩) (c24 : PySem.W.codeIn K cd24 "_law_take" = true) (k24 : PySem.W.keepIn K (.ref f24) = true)
    {f25 : Addr} {od25 an25 : Option Addr} {sl25 : Array (Option Value)} {oc25 kV25 dc25 pm25 cd25 ct25 : Value}
        (a25 : PySem.W.nsIn K mainGlobals "_law_record" = some (some (.ref f25))) (l25 : K.lookup f25 = some ⟨oc25, od25, .func (PySem.W.fnOf "_law_record" "_law_record" (defArgs st_l_record) (defBody st_l_record) (defScope st_l_record) .none kV25 dc25 pm25 an25 cd25 ct25), sl25⟩) (c25 : PySem.W.codeIn K cd25 "_law_record" = true) (k25 : PySem.W.keepIn K (.ref f25) = true)
    {f26 : Addr} {od26 an26 : Option Addr} {sl26 : Array (Option Value)} {oc26 kV26 dc26 pm26 cd26 ct26 : Value}
        (a26 : PySem.W.nsIn K mainGlobals "_law_rim" = some (some (.ref f26))) (l26 : K.lookup f26 = some ⟨oc26, od26, .func (PySem.W.fnOf "_law_rim" "_law_rim" (defArgs st_l_rim) (defBody st_l_rim) (defScope st_l_rim) .none kV26 dc26 pm26 an26 cd26 ct26), sl26⟩) (c26 : PySem.W.codeIn K cd26 "_law_rim" = true) (k26 : PySem.W.keepIn K (.ref f26) = true)
    {f27 : Addr} {od27 an27 : Option Addr} {sl27 : Array (Option Value)} {oc27 kV27 dc27 pm27 cd27 ct27 : Value}
        (a27 : PySem.W.nsIn K mainGlobals "_law_sides" = some (some (.ref f27))) (l27 : K.lookup f27 = some ⟨oc27, od27, .func (PySem.W.fnOf "_law_sides" "_law_sides" (defArgs st_l_sides) (defBody st_l_sides) (defScope st_l_sides) .none kV27 dc27 pm27 an27 cd27 ct27), sl27⟩) (c27 : PySem.W.codeIn K cd27 "_law_sides" = true) (k27 : PySem.W.keepIn K (.ref f27) = true)
    {f28 : Addr} {od28 an28 : Option Addr} {sl28 : Array (Option Value)} {oc28 kV28 dc28 pm28 cd28 ct28 : Value}
        (a28 : PySem.W.nsIn K mainGlobals "law" = some (some (.ref f28))) (l28 : K.lookup f28 = some ⟨oc28, od28, .func (PySem.W.fnOf "law" "law" (defArgs st_law) (defBody st_law) (defScope st_law) .none kV28 dc28 pm28 an28 cd28 ct28), sl28⟩) (c28 : PySem.W.codeIn K cd28 "law" = true) (k28 : PySem.W.keepIn K (.ref f28) = true)
        (z_len : PySem.W.nsIn K mainGlobals "len" = some none)
        (z_tuple : PySem.W.nsIn K mainGlobals "tuple" = some none)
        (z_range : PySem.W.nsIn K mainGlobals "range" = some none)
        (z_isinstance : PySem.W.nsIn K mainGlobals "isinstance" = some none)
        (z_int : PySem.W.nsIn K mainGlobals "int" = some none)
        (z_bool : PySem.W.nsIn K mainGlobals "bool" = some none)
        (z_min : PySem.W.nsIn K mainGlobals "min" = some none)
        (z_max : PySem.W.nsIn K mainGlobals "max" = some none)
        (z_enumerate : PySem.W.nsIn K mainGlobals "enumerate" = some none)
        (z_list : PySem.W.nsIn K mainGlobals "list" = some none)
        (z_reversed : PySem.W.nsIn K mainGlobals "reversed" = some none)
        (z_all : PySem.W.nsIn K mainGlobals "all" = some none)
        {tk_MOST_LAYERS : Tok} (y_MOST_LAYERS : PySem.W.nsIn K mainGlobals "MOST_LAYERS" = some (some (.int (6) tk_MOST_LAYERS))) :
    ∃ fd : FuncData, (∀ (s : Shared) (v : Value), BindsTo s fd ⟨[v], []⟩ [("script", v)]) ∧ ∀ base : Heap, K.In base → base.Ns mainGlobals mg → FnOk l.prog w K mg base CX0 8 fa fd ["script"] (spG K mg 1 f_law) := by
  have e := hfa.symm.trans (PySem.W.mg_of X G a28)
  cases e
  exact ⟨_, fun s v => .of_eq rfl, fun base _ _ => ok_law (mkTx X G a0 l0 c0 k0 a1 l1 c1 k1 a2 l2 c2 k2 a3 l3 c3 k3 a4 l4 c4 k4 a5 l5 c5 k5 a6 l6 c6 k6 a7 l7 c7 k7 a8 l8 c8 k8 a9 l9 c9 k9 a10 l10 c10 k10 a11 l11 c11 k11 a12 l12 c12 k12 a13 l13 c13 k13 a14 l14 c14 k14 a15 l15 c15 k15 a16 l16 c16 k16 e16 a17 l17 c17 k17 a18 l18 c18 k18 a19 l19 c19 k19 a20 l20 c20 k20 a21 l21 c21 k21 a22 l22 c22 k22 a23 l23 c23 k23 a24 l24 c24 k24 a25 l25 c25 k25 a26 l26 c26 k26 a27 l27 c27 k27 a28 l28 c28 k28 z_len z_tuple z_range z_isinstance z_int z_bool z_min z_max z_enumerate z_list z_reversed z_all y_MOST_LAYERS)⟩
end
end K40
end T_K40

section T_K40A
set_option linter.all false
set_option maxRecDepth 100000
set_option maxHeartbeats 4000000
/-! K40A: what is drawn: pools (the lines of K51A), records. -/
namespace K40
open PySem Sim FamA Flow

def poolD (r : Int) : Dt := .list [.int r]
def PoolOk (p : Dt) : Prop := ∃ r : Int, p = poolD r ∧ 0 ≤ r
theorem PoolOk.arg {p : Dt} (h : PoolOk p) : argK .la p = true := by
  obtain ⟨r, rfl, _⟩ := h
  rfl
theorem PoolOk.argD {p : Dt} (h : PoolOk p) : argD p = true := by
  obtain ⟨r, rfl, _⟩ := h
  rfl
theorem ixq0 (r : Int) : hIx (poolD r) (.int 0) = .ok (.int r) := rfl
theorem take_ok {size : Int} {p : Dt} (hp : PoolOk p) (hs : 0 < size) (hs2 : size < 1000000000000000000000000000000000) :
    ∃ d p', f_l_take [p, .int size] = .ok (.tuple [.int d, p']) ∧ 0 ≤ d ∧ d < size ∧ PoolOk p' := by
  obtain ⟨r, rfl, r0⟩ := hp
  have hdv := hDiv_s (i := r) hs hs2
  have hmd := hMod_i (i := r) hs
  refine ⟨r % size, poolD (r / size), fnN_rt ?_, Int.emod_nonneg _ (by omega), Int.emod_lt_of_pos _ hs, _, rfl, Int.ediv_nonneg r0 (by omega)⟩
  show g_l_take [poolD r, .int size, .none] = _
  unfold g_l_take
  refine seq_step (set_ok (d := .int (r % size)) (by simp only [bnd_ok, gVar_def, gC_def, gOp_def, gUn_def, gNil_def, gCons_def, gIf_def, gTest_def, gNot_def, gAnd_def, gOr_def, gAndV_def, gOrV_def, gNotV_def, gCB_def, asB_b, hAdd_i, hSub_i, hLt_i, hLe_i, hGt_i, hGe_i, hMul_r, hMul_l, hMod_i, hDiv_s, hBand_i, hShr_i, hPow_10_18, hPow_10_27, hPow_10_28, hPow_10_29, hPow_10_30, hEq_i, hNe_i, hLen_l, hLen_t, hMin2_i, hMax2_i, hMin3_i, hInt1_b, hInt1_i, hBits_i, hListOf_l, hListOf_t, hTupOf_l, hTupOf_t, gSeqS_def, gSet_def, gRet_def, gIfS_def, gNext_def, gTup_def, gLst_def, List.getElem?_cons_zero, List.getElem?_cons_succ, List.set_cons_zero, List.set_cons_succ, List.length_cons, List.length_nil, Nat.zero_add, Nat.reduceAdd, Nat.reduceLeDiff, Nat.reduceSub, Nat.reduceMul, if_true, if_false, Bool.false_eq_true, List.replicate_succ, List.replicate_zero, List.cons_append, List.nil_append, tgN, tgT, tgCons, tgNil, Int.reducePow, Int.reduceAdd, Int.reduceSub, Int.reduceMul, decide_true, decide_false, Bool.not_true, Bool.not_false, gChain_def, hIsa_int, hIsa_intb, hIsa_list, hIsa_tuple, gDrop_def, ixq0, hmd])) ?_
  dsimp only [List.set]
  refine seq_step (setI_ok (ds := [.int r]) (d := .int (r / size)) (j := 0) (by simp only [bnd_ok, gVar_def, gC_def, gOp_def, gUn_def, gNil_def, gCons_def, gIf_def, gTest_def, gNot_def, gAnd_def, gOr_def, gAndV_def, gOrV_def, gNotV_def, gCB_def, asB_b, hAdd_i, hSub_i, hLt_i, hLe_i, hGt_i, hGe_i, hMul_r, hMul_l, hMod_i, hDiv_s, hBand_i, hShr_i, hPow_10_18, hPow_10_27, hPow_10_28, hPow_10_29, hPow_10_30, hEq_i, hNe_i, hLen_l, hLen_t, hMin2_i, hMax2_i, hMin3_i, hInt1_b, hInt1_i, hBits_i, hListOf_l, hListOf_t, hTupOf_l, hTupOf_t, gSeqS_def, gSet_def, gRet_def, gIfS_def, gNext_def, gTup_def, gLst_def, List.getElem?_cons_zero, List.getElem?_cons_succ, List.set_cons_zero, List.set_cons_succ, List.length_cons, List.length_nil, Nat.zero_add, Nat.reduceAdd, Nat.reduceLeDiff, Nat.reduceSub, Nat.reduceMul, if_true, if_false, Bool.false_eq_true, List.replicate_succ, List.replicate_zero, List.cons_append, List.nil_append, tgN, tgT, tgCons, tgNil, Int.reducePow, Int.reduceAdd, Int.reduceSub, Int.reduceMul, decide_true, decide_false, Bool.not_true, Bool.not_false, gChain_def, hIsa_int, hIsa_intb, hIsa_list, hIsa_tuple, gDrop_def, ixq0, hdv]) rfl rfl (by omega) (by simp)) ?_
  exact xret_ok (ρ' := [poolD (r / size), .int size, .int (r % size)]) (d := .int (r % size)) (e := poolD (r / size)) (by rfl) rfl rfl
/-- a draw within an expression -/
theorem tk_ok {size : Int} {p : Dt} {i : Nat} {gA : List Dt → O (List Dt × List Dt)} {ρ ρ' : List Dt} (h1 : gA ρ = .ok ([.int size], ρ')) (h3 : ρ'[i]? = some p) (hp : PoolOk p) (hs : 0 < size) (hs2 : size < 1000000000000000000000000000000000) :
    ∃ d p', xCallM .la 2 f_l_take i gA ρ = .ok (.int d, ρ'.set i p') ∧ 0 ≤ d ∧ d < size ∧ PoolOk p' := by
  obtain ⟨d, p', h, d0, d1, hp'⟩ := take_ok hp hs hs2
  exact ⟨d, p', xcallM_ok h1 rfl h3 hp.arg h hp'.arg, d0, d1, hp'⟩
theorem ix_list {xs : List Int} {i lo hi : Int} (h0 : 0 ≤ i) (h1 : i < xs.length) (hx : ∀ x ∈ xs, lo ≤ x ∧ x ≤ hi) : ∃ x, hIx (.list (xs.map .int)) (.int i) = .ok (.int x) ∧ lo ≤ x ∧ x ≤ hi :=
  ⟨_, hIx_ints h0 h1, hx _ (List.getElem_mem _)⟩
/-! the pool -/
theorem lg_le {x : Int} {m : Nat} (h0 : 0 ≤ x) (h : x < ((2 ^ m : Nat) : Int)) : x.natAbs.log2 ≤ m := by
  have h1 : x.natAbs < 2 ^ m := by omega
  by_cases c : x.natAbs = 0
  · rw [c]
    exact Nat.zero_le _
  · exact Nat.le_of_lt ((Nat.log2_lt c).mpr h1)
theorem mulW {i j : Int} {m : Nat} (i0 : 0 ≤ i) (i1 : i < ((2 ^ m : Nat) : Int)) (hm : m ≤ 100000) (j0 : 0 ≤ j) (j1 : j < 18446744073709551616) : hMulW (.int i) (.int j) = .ok (.int (i * j)) := by
  have h1 := lg_le i0 i1
  have h2 := lg_le (m := 64) j0 (by exact j1)
  exact hMulW_i (by omega)
theorem mulS {i j : Int} (i0 : 0 ≤ i) (i1 : i < 18446744073709551616) (j0 : 0 ≤ j) (j1 : j < 18446744073709551616) : hMulW (.int i) (.int j) = .ok (.int (i * j)) := mulW (m := 64) i0 (by exact i1) (by omega) j0 j1
theorem poolStep {sc x5 : Dt} {k cell big : Int} {i : Nat} (hi : i < 48) (k0 : 0 ≤ k) (k1 : k < 1000) (f0 : 0 ≤ big) (f1 : big < ((2 ^ (20 * i) : Nat) : Int)) :
    ∃ big' y5, g_l_pool_L1 [sc, .int k, .int cell, .int big, .int (0 + (i : Int)), x5] = .ok (.nx [sc, .int k, .int cell, .int big', .int (0 + (i : Int)), y5]) ∧ 0 ≤ big' ∧ big' < ((2 ^ (20 * (i + 1)) : Nat) : Int) := by
  have m0 := hMod_i (i := cell) (show (0 : Int) < 998244353 by omega)
  have c0 := Int.emod_nonneg cell (show (998244353 : Int) ≠ 0 by omega)
  have c1 := Int.emod_lt_of_pos cell (show (0 : Int) < 998244353 by omega)
  generalize cell % 998244353 = ce at *
  have e1 := mulS (i := 89) (j := 0 + (i : Int)) (by omega) (by omega) (by omega) (by omega)
  have hq0 : (0 : Int) ≤ 89 * (0 + (i : Int)) * (0 + (i : Int)) ∧ 89 * (0 + (i : Int)) * (0 + (i : Int)) ≤ 1000000 := by
    have : (0 + (i : Int)) = (i : Int) := by omega
    rw [this]
    have h1 : (89 : Int) * (i : Int) ≤ 89 * 47 := by omega
    have h2 : (89 : Int) * (i : Int) * (i : Int) ≤ 89 * 47 * 47 := Int.mul_le_mul h1 (by omega) (by omega) (by omega)
    have h3 : (0 : Int) ≤ 89 * (i : Int) * (i : Int) := Int.mul_nonneg (by omega) (by omega)
    omega
  have e2 := mulS (i := 89 * (0 + (i : Int))) (j := 0 + (i : Int)) (by omega) (by omega) (by omega) (by omega)
  have e3 := mulS (i := 7) (j := k) (by omega) (by omega) k0 (by omega)
  generalize 89 * (0 + (i : Int)) * (0 + (i : Int)) = sq at *
  have e4 := mulS (i := ce + sq + 7 * k + 1) (j := 48271) (by omega) (by omega) (by omega) (by omega)
  have m1 := hMod_i (i := (ce + sq + 7 * k + 1) * 48271) (show (0 : Int) < 2147483647 by omega)
  have r1 := Int.emod_nonneg ((ce + sq + 7 * k + 1) * 48271) (show (2147483647 : Int) ≠ 0 by omega)
  have r2 := Int.emod_lt_of_pos ((ce + sq + 7 * k + 1) * 48271) (show (0 : Int) < 2147483647 by omega)
  have s1 : gOp hMod (gOp hMulW (gOp hAdd (gOp hAdd (gOp hAdd (gOp hMod (gVar 2) (gC (.int (998244353)))) (gOp hMulW (gOp hMulW (gC (.int (89))) (gVar 4)) (gVar 4))) (gOp hMulW (gC (.int (7))) (gVar 1))) (gC (.int (1)))) (gC (.int (48271)))) (gC (.int (2147483647))) [sc, .int k, .int cell, .int big, .int (0 + (i : Int)), x5] = .ok (.int ((ce + sq + 7 * k + 1) * 48271 % 2147483647)) := by
    simp only [bnd_ok, gVar_def, gC_def, gOp_def, gUn_def, gNil_def, gCons_def, gIf_def, gTest_def, gNot_def, gAnd_def, gOr_def, gAndV_def, gOrV_def, gNotV_def, gCB_def, asB_b, hAdd_i, hSub_i, hLt_i, hLe_i, hGt_i, hGe_i, hMul_r, hMul_l, hMod_i, hDiv_s, hBand_i, hShr_i, hPow_10_18, hPow_10_27, hPow_10_28, hPow_10_29, hPow_10_30, hEq_i, hNe_i, hLen_l, hLen_t, hMin2_i, hMax2_i, hMin3_i, hInt1_b, hInt1_i, hBits_i, hListOf_l, hListOf_t, hTupOf_l, hTupOf_t, gSeqS_def, gSet_def, gRet_def, gIfS_def, gNext_def, gTup_def, gLst_def, List.getElem?_cons_zero, List.getElem?_cons_succ, List.set_cons_zero, List.set_cons_succ, List.length_cons, List.length_nil, Nat.zero_add, Nat.reduceAdd, Nat.reduceLeDiff, Nat.reduceSub, Nat.reduceMul, if_true, if_false, Bool.false_eq_true, List.replicate_succ, List.replicate_zero, List.cons_append, List.nil_append, tgN, tgT, tgCons, tgNil, Int.reducePow, Int.reduceAdd, Int.reduceSub, Int.reduceMul, decide_true, decide_false, Bool.not_true, Bool.not_false, gChain_def, hIsa_int, hIsa_intb, hIsa_list, hIsa_tuple, gDrop_def, m0, e1, e2, e3, e4, m1]
  generalize (ce + sq + 7 * k + 1) * 48271 % 2147483647 = a at *
  have e5 := mulS (i := a) (j := a) r1 (by omega) r1 (by omega)
  have m2 := hMod_i (i := a * a) (show (0 : Int) < 1000000007 by omega)
  have q1 := Int.emod_nonneg (a * a) (show (1000000007 : Int) ≠ 0 by omega)
  have q2 := Int.emod_lt_of_pos (a * a) (show (0 : Int) < 1000000007 by omega)
  generalize a * a % 1000000007 = b at *
  have e6 := mulS (i := 7919) (j := 0 + (i : Int)) (by omega) (by omega) (by omega) (by omega)
  have e7 := mulS (i := b + 7919 * (0 + (i : Int))) (j := 69621) (by omega) (by omega) (by omega) (by omega)
  have m3 := hMod_i (i := (b + 7919 * (0 + (i : Int))) * 69621) (show (0 : Int) < 2147483587 by omega)
  have t1 := Int.emod_nonneg ((b + 7919 * (0 + (i : Int))) * 69621) (show (2147483587 : Int) ≠ 0 by omega)
  generalize (b + 7919 * (0 + (i : Int))) * 69621 % 2147483587 = c at *
  have e8 := mulW (i := big) (j := 1000003) f0 f1 (by omega) (by omega) (by omega)
  have d8 := hDiv_s (i := c) (show (0 : Int) < 8 by omega) (by omega)
  have m4 := hMod_i (i := c / 8) (show (0 : Int) < 1000003 by omega)
  have p1 := Int.emod_nonneg (c / 8) (show (1000003 : Int) ≠ 0 by omega)
  have p2 := Int.emod_lt_of_pos (c / 8) (show (0 : Int) < 1000003 by omega)
  refine ⟨big * 1000003 + c / 8 % 1000003, .int c, ?_, by omega, ?_⟩
  · unfold g_l_pool_L1
    refine seq_step (set_ok s1) ?_
    dsimp only [List.set]
    refine seq_step (set_ok (d := .int b) (by simp only [bnd_ok, gVar_def, gC_def, gOp_def, gUn_def, gNil_def, gCons_def, gIf_def, gTest_def, gNot_def, gAnd_def, gOr_def, gAndV_def, gOrV_def, gNotV_def, gCB_def, asB_b, hAdd_i, hSub_i, hLt_i, hLe_i, hGt_i, hGe_i, hMul_r, hMul_l, hMod_i, hDiv_s, hBand_i, hShr_i, hPow_10_18, hPow_10_27, hPow_10_28, hPow_10_29, hPow_10_30, hEq_i, hNe_i, hLen_l, hLen_t, hMin2_i, hMax2_i, hMin3_i, hInt1_b, hInt1_i, hBits_i, hListOf_l, hListOf_t, hTupOf_l, hTupOf_t, gSeqS_def, gSet_def, gRet_def, gIfS_def, gNext_def, gTup_def, gLst_def, List.getElem?_cons_zero, List.getElem?_cons_succ, List.set_cons_zero, List.set_cons_succ, List.length_cons, List.length_nil, Nat.zero_add, Nat.reduceAdd, Nat.reduceLeDiff, Nat.reduceSub, Nat.reduceMul, if_true, if_false, Bool.false_eq_true, List.replicate_succ, List.replicate_zero, List.cons_append, List.nil_append, tgN, tgT, tgCons, tgNil, Int.reducePow, Int.reduceAdd, Int.reduceSub, Int.reduceMul, decide_true, decide_false, Bool.not_true, Bool.not_false, gChain_def, hIsa_int, hIsa_intb, hIsa_list, hIsa_tuple, gDrop_def, e5, m2])) ?_
    dsimp only [List.set]
    refine seq_step (set_ok (d := .int c) (by simp only [bnd_ok, gVar_def, gC_def, gOp_def, gUn_def, gNil_def, gCons_def, gIf_def, gTest_def, gNot_def, gAnd_def, gOr_def, gAndV_def, gOrV_def, gNotV_def, gCB_def, asB_b, hAdd_i, hSub_i, hLt_i, hLe_i, hGt_i, hGe_i, hMul_r, hMul_l, hMod_i, hDiv_s, hBand_i, hShr_i, hPow_10_18, hPow_10_27, hPow_10_28, hPow_10_29, hPow_10_30, hEq_i, hNe_i, hLen_l, hLen_t, hMin2_i, hMax2_i, hMin3_i, hInt1_b, hInt1_i, hBits_i, hListOf_l, hListOf_t, hTupOf_l, hTupOf_t, gSeqS_def, gSet_def, gRet_def, gIfS_def, gNext_def, gTup_def, gLst_def, List.getElem?_cons_zero, List.getElem?_cons_succ, List.set_cons_zero, List.set_cons_succ, List.length_cons, List.length_nil, Nat.zero_add, Nat.reduceAdd, Nat.reduceLeDiff, Nat.reduceSub, Nat.reduceMul, if_true, if_false, Bool.false_eq_true, List.replicate_succ, List.replicate_zero, List.cons_append, List.nil_append, tgN, tgT, tgCons, tgNil, Int.reducePow, Int.reduceAdd, Int.reduceSub, Int.reduceMul, decide_true, decide_false, Bool.not_true, Bool.not_false, gChain_def, hIsa_int, hIsa_intb, hIsa_list, hIsa_tuple, gDrop_def, e6, e7, m3])) ?_
    dsimp only [List.set]
    exact set_ok (d := .int (big * 1000003 + c / 8 % 1000003)) (by simp only [bnd_ok, gVar_def, gC_def, gOp_def, gUn_def, gNil_def, gCons_def, gIf_def, gTest_def, gNot_def, gAnd_def, gOr_def, gAndV_def, gOrV_def, gNotV_def, gCB_def, asB_b, hAdd_i, hSub_i, hLt_i, hLe_i, hGt_i, hGe_i, hMul_r, hMul_l, hMod_i, hDiv_s, hBand_i, hShr_i, hPow_10_18, hPow_10_27, hPow_10_28, hPow_10_29, hPow_10_30, hEq_i, hNe_i, hLen_l, hLen_t, hMin2_i, hMax2_i, hMin3_i, hInt1_b, hInt1_i, hBits_i, hListOf_l, hListOf_t, hTupOf_l, hTupOf_t, gSeqS_def, gSet_def, gRet_def, gIfS_def, gNext_def, gTup_def, gLst_def, List.getElem?_cons_zero, List.getElem?_cons_succ, List.set_cons_zero, List.set_cons_succ, List.length_cons, List.length_nil, Nat.zero_add, Nat.reduceAdd, Nat.reduceLeDiff, Nat.reduceSub, Nat.reduceMul, if_true, if_false, Bool.false_eq_true, List.replicate_succ, List.replicate_zero, List.cons_append, List.nil_append, tgN, tgT, tgCons, tgNil, Int.reducePow, Int.reduceAdd, Int.reduceSub, Int.reduceMul, decide_true, decide_false, Bool.not_true, Bool.not_false, gChain_def, hIsa_int, hIsa_intb, hIsa_list, hIsa_tuple, gDrop_def, e8, d8, m4])
  · have e : (2 ^ (20 * (i + 1)) : Nat) = 2 ^ (20 * i) * 1048576 := by rw [Nat.mul_add, Nat.pow_add]
    rw [e]
    generalize (2 ^ (20 * i) : Nat) = P at *
    generalize c / 8 % 1000003 = d at *
    omega
theorem cell_ok (ns : List Int) {k : Int} (k0 : 0 ≤ k) : ∃ c : Int, f_l_cell_at [.list (ns.map .int), .int k] = .ok (.int c) := by
  by_cases h : k < (ns.length : Int)
  · refine ⟨ns[k.toNat]'(by omega), fnN_rt ?_⟩
    show g_l_cell_at [.list (ns.map .int), .int k] = _
    unfold g_l_cell_at
    refine seq_rt ((if_t (by simp only [bnd_ok, gVar_def, gC_def, gOp_def, gUn_def, gNil_def, gCons_def, gIf_def, gTest_def, gNot_def, gAnd_def, gOr_def, gAndV_def, gOrV_def, gNotV_def, gCB_def, asB_b, hAdd_i, hSub_i, hLt_i, hLe_i, hGt_i, hGe_i, hMul_r, hMul_l, hMod_i, hDiv_s, hBand_i, hShr_i, hPow_10_18, hPow_10_27, hPow_10_28, hPow_10_29, hPow_10_30, hEq_i, hNe_i, hLen_l, hLen_t, hMin2_i, hMax2_i, hMin3_i, hInt1_b, hInt1_i, hBits_i, hListOf_l, hListOf_t, hTupOf_l, hTupOf_t, gSeqS_def, gSet_def, gRet_def, gIfS_def, gNext_def, gTup_def, gLst_def, List.getElem?_cons_zero, List.getElem?_cons_succ, List.set_cons_zero, List.set_cons_succ, List.length_cons, List.length_nil, Nat.zero_add, Nat.reduceAdd, Nat.reduceLeDiff, Nat.reduceSub, Nat.reduceMul, if_true, if_false, Bool.false_eq_true, List.replicate_succ, List.replicate_zero, List.cons_append, List.nil_append, tgN, tgT, tgCons, tgNil, Int.reducePow, Int.reduceAdd, Int.reduceSub, Int.reduceMul, decide_true, decide_false, Bool.not_true, Bool.not_false, gChain_def, hIsa_int, hIsa_intb, hIsa_list, hIsa_tuple, gDrop_def, List.length_map, h])).trans (ret_ok ?_))
    have e : gOp hIx (gVar 0) (gVar 1) [.list (ns.map .int), .int k] = .ok (.int (ns[k.toNat]'(by omega))) := by
      rw [gOp_def]
      exact hIx_ints k0 h
    unfold gPur
    rw [e]
    rfl
  · refine ⟨0, fnN_rt ?_⟩
    show g_l_cell_at [.list (ns.map .int), .int k] = _
    unfold g_l_cell_at
    exact seq_step ((if_f (by simp only [bnd_ok, gVar_def, gC_def, gOp_def, gUn_def, gNil_def, gCons_def, gIf_def, gTest_def, gNot_def, gAnd_def, gOr_def, gAndV_def, gOrV_def, gNotV_def, gCB_def, asB_b, hAdd_i, hSub_i, hLt_i, hLe_i, hGt_i, hGe_i, hMul_r, hMul_l, hMod_i, hDiv_s, hBand_i, hShr_i, hPow_10_18, hPow_10_27, hPow_10_28, hPow_10_29, hPow_10_30, hEq_i, hNe_i, hLen_l, hLen_t, hMin2_i, hMax2_i, hMin3_i, hInt1_b, hInt1_i, hBits_i, hListOf_l, hListOf_t, hTupOf_l, hTupOf_t, gSeqS_def, gSet_def, gRet_def, gIfS_def, gNext_def, gTup_def, gLst_def, List.getElem?_cons_zero, List.getElem?_cons_succ, List.set_cons_zero, List.set_cons_succ, List.length_cons, List.length_nil, Nat.zero_add, Nat.reduceAdd, Nat.reduceLeDiff, Nat.reduceSub, Nat.reduceMul, if_true, if_false, Bool.false_eq_true, List.replicate_succ, List.replicate_zero, List.cons_append, List.nil_append, tgN, tgT, tgCons, tgNil, Int.reducePow, Int.reduceAdd, Int.reduceSub, Int.reduceMul, decide_true, decide_false, Bool.not_true, Bool.not_false, gChain_def, hIsa_int, hIsa_intb, hIsa_list, hIsa_tuple, gDrop_def, List.length_map, h])).trans rfl) rfl
theorem pool_ok (ns : List Int) {k : Int} (k0 : 0 ≤ k) (k1 : k < 1000) : ∃ p, f_l_pool [.list (ns.map .int), .int k] = .ok p ∧ PoolOk p := by
  obtain ⟨cell, hc⟩ := cell_ok ns k0
  have c1 : gCallN 2 f_l_cell_at (gCons (gVar 0) (gCons (gVar 1) (gNil))) [.list (ns.map .int), .int k, .none, .none, .none, .none] = .ok (.int cell) := callN_ok (ds := [.list (ns.map .int), .int k]) rfl rfl hc
  by_cases h : 1000000000000000000 ≤ cell
  · refine ⟨poolD cell, fnL_rt ?_, _, rfl, by omega⟩
    show g_l_pool [.list (ns.map .int), .int k, .none, .none, .none, .none] = _
    unfold g_l_pool
    refine seq_step (set_ok c1) ?_
    dsimp only [List.set]
    exact seq_rt ((if_t (by simp only [bnd_ok, gVar_def, gC_def, gOp_def, gUn_def, gNil_def, gCons_def, gIf_def, gTest_def, gNot_def, gAnd_def, gOr_def, gAndV_def, gOrV_def, gNotV_def, gCB_def, asB_b, hAdd_i, hSub_i, hLt_i, hLe_i, hGt_i, hGe_i, hMul_r, hMul_l, hMod_i, hDiv_s, hBand_i, hShr_i, hPow_10_18, hPow_10_27, hPow_10_28, hPow_10_29, hPow_10_30, hEq_i, hNe_i, hLen_l, hLen_t, hMin2_i, hMax2_i, hMin3_i, hInt1_b, hInt1_i, hBits_i, hListOf_l, hListOf_t, hTupOf_l, hTupOf_t, gSeqS_def, gSet_def, gRet_def, gIfS_def, gNext_def, gTup_def, gLst_def, List.getElem?_cons_zero, List.getElem?_cons_succ, List.set_cons_zero, List.set_cons_succ, List.length_cons, List.length_nil, Nat.zero_add, Nat.reduceAdd, Nat.reduceLeDiff, Nat.reduceSub, Nat.reduceMul, if_true, if_false, Bool.false_eq_true, List.replicate_succ, List.replicate_zero, List.cons_append, List.nil_append, tgN, tgT, tgCons, tgNil, Int.reducePow, Int.reduceAdd, Int.reduceSub, Int.reduceMul, decide_true, decide_false, Bool.not_true, Bool.not_false, gChain_def, hIsa_int, hIsa_intb, hIsa_list, hIsa_tuple, gDrop_def, h])).trans (ret_ok (by rfl)))
  · obtain ⟨ρ', hf, fo, x4, x5, rfl, f0, f1⟩ := forE_ix (fun (j : Nat) => PyData.int (0 + (j : Int))) (h := tgN 4) (b := g_l_pool_L1) (List.range 48)
      (fun i ρ => ∃ (fo : Int) (x4 x5 : Dt), ρ = [.list (ns.map .int), .int k, .int cell, .int fo, x4, x5] ∧ 0 ≤ fo ∧ fo < ((2 ^ (20 * i) : Nat) : Int))
      (ρ := [.list (ns.map .int), .int k, .int cell, .int 0, .none, .none]) ⟨0, .none, .none, rfl, by omega, by simp⟩ (by
        rintro i ρ hi ⟨fo, x4, x5, rfl, f0, f1⟩
        rw [List.length_range] at hi
        obtain ⟨fo2, y5, hb, q2, q3⟩ := poolStep (sc := .list (ns.map .int)) (x5 := x5) (cell := cell) hi k0 k1 f0 f1
        rw [List.getElem_range]
        exact ⟨_, _, rfl, .inl hb, fo2, _, y5, rfl, q2, q3⟩)
    refine ⟨poolD fo, fnL_rt ?_, _, rfl, f0⟩
    show g_l_pool [.list (ns.map .int), .int k, .none, .none, .none, .none] = _
    unfold g_l_pool
    refine seq_step (set_ok c1) ?_
    dsimp only [List.set]
    refine seq_step ((if_f (by simp only [bnd_ok, gVar_def, gC_def, gOp_def, gUn_def, gNil_def, gCons_def, gIf_def, gTest_def, gNot_def, gAnd_def, gOr_def, gAndV_def, gOrV_def, gNotV_def, gCB_def, asB_b, hAdd_i, hSub_i, hLt_i, hLe_i, hGt_i, hGe_i, hMul_r, hMul_l, hMod_i, hDiv_s, hBand_i, hShr_i, hPow_10_18, hPow_10_27, hPow_10_28, hPow_10_29, hPow_10_30, hEq_i, hNe_i, hLen_l, hLen_t, hMin2_i, hMax2_i, hMin3_i, hInt1_b, hInt1_i, hBits_i, hListOf_l, hListOf_t, hTupOf_l, hTupOf_t, gSeqS_def, gSet_def, gRet_def, gIfS_def, gNext_def, gTup_def, gLst_def, List.getElem?_cons_zero, List.getElem?_cons_succ, List.set_cons_zero, List.set_cons_succ, List.length_cons, List.length_nil, Nat.zero_add, Nat.reduceAdd, Nat.reduceLeDiff, Nat.reduceSub, Nat.reduceMul, if_true, if_false, Bool.false_eq_true, List.replicate_succ, List.replicate_zero, List.cons_append, List.nil_append, tgN, tgT, tgCons, tgNil, Int.reducePow, Int.reduceAdd, Int.reduceSub, Int.reduceMul, decide_true, decide_false, Bool.not_true, Bool.not_false, gChain_def, hIsa_int, hIsa_intb, hIsa_list, hIsa_tuple, gDrop_def, h])).trans rfl) ?_
    refine seq_step (set_ok (d := .int 0) rfl) ?_
    dsimp only [List.set]
    refine seq_step (for_ok (ds := (List.range 48).map fun (j : Nat) => PyData.int (0 + (j : Int))) ?_ hf) ?_
    · rw [rng1_ok (j := 48) (by rfl) (by omega) (by omega)]
      rfl
    · exact ret_ok (by rfl)
/-! heavy webs -/
theorem hPow25 : hPow (.int 10) (.int 25) = .ok (.int 10000000000000000000000000) := by
  show (if cPow 10 25 then O.ok (PyData.int ((10 : Int) ^ (25 : Int).toNat)) else .bad) = _
  rw [if_pos (by decide)]
  rfl
theorem end_in {n a : Int} (n1 : 1 ≤ n) : 0 ≤ a % n ∧ a % n < n := ⟨Int.emod_nonneg _ (by omega), Int.emod_lt_of_pos _ (by omega)⟩
theorem rec_snoc' {n m a b : Int} {r : List T3} (hl : r.length < 60) (hg : Good n r) (hm : ∀ t ∈ r, t.1 < m) (m0 : 0 ≤ m) (m1 : m ≤ 1000000000000000000000000000000) (a0 : 0 ≤ a) (a1 : a < n) (b0 : 0 ≤ b) (b1 : b < n) :
    Good n (r ++ [(m, (if b < a then b else a), (if b > a then b else a))]) := by
  refine ⟨by rw [List.length_append, List.length_singleton]; omega, fun t ht => ?_, ?_⟩
  · rcases List.mem_append.mp ht with h | h
    · exact hg.ok t h
    · rw [List.mem_singleton.mp h]
      refine ⟨⟨m0, m1⟩, ?_, ?_, ?_⟩
      · show 0 ≤ (if b < a then b else a)
        split <;> omega
      · show (if b < a then b else a) ≤ (if b > a then b else a)
        split <;> split <;> omega
      · show (if b > a then b else a) < n
        split <;> omega
  · rw [List.pairwise_append]
    refine ⟨hg.ord, List.pairwise_singleton _ _, fun s hs t ht => ?_⟩
    rw [List.mem_singleton.mp ht]
    exact hm s hs
theorem record_ok {n most : Int} {p : Dt} (hp : PoolOk p) (n1 : 1 ≤ n) (n10 : n ≤ 10) (h0 : 0 ≤ most) (h1 : most ≤ 60) :
    ∃ r p', f_l_record [p, .int n, .int most] = .ok (.tuple [.list (r.map enc3), p']) ∧ Good n r ∧ (r.length : Int) ≤ most ∧ PoolOk p' := by
  obtain ⟨many, p1, e1, m0, m1, hp1⟩ := tk_ok (i := 0) (gA := xCons (xP (gOp hAdd (gVar 2) (gC (.int (1))))) (xNil)) (ρ := [p, .int n, .int most, .none, .none, .none, .none, .none, .none, .none]) (ρ' := [p, .int n, .int most, .none, .none, .none, .none, .none, .none, .none]) (size := most + 1) (by
    rw [xCons_def, xP_def]
    simp only [bnd_ok, gVar_def, gC_def, gOp_def, gUn_def, gNil_def, gCons_def, gIf_def, gTest_def, gNot_def, gAnd_def, gOr_def, gAndV_def, gOrV_def, gNotV_def, gCB_def, asB_b, hAdd_i, hSub_i, hLt_i, hLe_i, hGt_i, hGe_i, hMul_r, hMul_l, hMod_i, hDiv_s, hBand_i, hShr_i, hPow_10_18, hPow_10_27, hPow_10_28, hPow_10_29, hPow_10_30, hEq_i, hNe_i, hLen_l, hLen_t, hMin2_i, hMax2_i, hMin3_i, hInt1_b, hInt1_i, hBits_i, hListOf_l, hListOf_t, hTupOf_l, hTupOf_t, gSeqS_def, gSet_def, gRet_def, gIfS_def, gNext_def, gTup_def, gLst_def, List.getElem?_cons_zero, List.getElem?_cons_succ, List.set_cons_zero, List.set_cons_succ, List.length_cons, List.length_nil, Nat.zero_add, Nat.reduceAdd, Nat.reduceLeDiff, Nat.reduceSub, Nat.reduceMul, if_true, if_false, Bool.false_eq_true, List.replicate_succ, List.replicate_zero, List.cons_append, List.nil_append, tgN, tgT, tgCons, tgNil, Int.reducePow, Int.reduceAdd, Int.reduceSub, Int.reduceMul, decide_true, decide_false, Bool.not_true, Bool.not_false, gChain_def, hIsa_int, hIsa_intb, hIsa_list, hIsa_tuple, gDrop_def]
    rfl) rfl hp (by omega) (by omega)
  have e1 : xCallM .la 2 f_l_take 0 (xCons (xP (gOp hAdd (gVar 2) (gC (.int (1))))) xNil) [p, .int n, .int most, .none, .none, .none, .none, .none, .none, .none] = .ok (.int many, [p1, .int n, .int most, .none, .none, .none, .none, .none, .none, .none]) := e1
  obtain ⟨wd, p2, e2, w0, w1, hp2⟩ := tk_ok (i := 0) (gA := xCons (xP (gC (.int (3)))) (xNil)) (ρ := [p1, .int n, .int most, .int many, .none, .none, .none, .none, .none, .none]) rfl rfl hp1 (by omega : (0 : Int) < 3) (by omega)
  obtain ⟨mo, p3, e3, mo0, mo1, hp3⟩ := tk_ok (i := 0) (gA := xCons (xP (gC (.int (4)))) (xNil)) (ρ := [p2, .int n, .int most, .int many, .int wd, .none, .none, .none, .none, .none]) rfl rfl hp2 (by omega : (0 : Int) < 4) (by omega)
  obtain ⟨ρ', hf, r, p4, m', x7, x8, x9, rfl, hp4, hl, hg, hm, _, _⟩ := forE_ix (fun (j : Nat) => PyData.int (0 + (j : Int))) (h := tgN 7) (b := g_l_record_L1) (List.range many.toNat)
    (fun i ρ => ∃ (r : List T3) (p4 : Dt) (m : Int) (x7 x8 x9 : Dt), ρ = [p4, .int n, .int most, .int many, .int wd, .int m, .list (r.map enc3), x7, x8, x9] ∧ PoolOk p4 ∧ r.length = i ∧ Good n r ∧ (∀ t ∈ r, t.1 < m) ∧ 0 ≤ m ∧ m ≤ 4 + i * 10000000000000000000000000000)
    (ρ := [p3, .int n, .int most, .int many, .int wd, .int mo, .list (([] : List T3).map enc3), .none, .none, .none]) ⟨[], p3, mo, .none, .none, .none, rfl, hp3, rfl, ⟨by simp, fun t ht => (nomatch ht), List.Pairwise.nil⟩, fun t ht => (nomatch ht), by omega, by omega⟩ (by
      rintro i ρ hi ⟨r, p4, m, x7, x8, x9, rfl, hp4, hl, hg, hm, q0, q1⟩
      rw [List.length_range] at hi
      have ei : (List.range many.toNat)[i] = i := List.getElem_range ..
      generalize hgj : (0 : Int) + ((List.range many.toNat)[i] : Nat) = jj
      rw [ei] at hgj
      obtain ⟨a, p5, e5, a0, a1, hp5⟩ := tk_ok (i := 0) (gA := xCons (xP (gVar 1)) (xNil)) (ρ := [p4, .int n, .int most, .int many, .int wd, .int m, .list (r.map enc3), .int jj, x8, x9]) rfl rfl hp4 (size := n) (by omega) (by omega)
      obtain ⟨b, p6, e6, b0, b1, hp6⟩ := tk_ok (i := 0) (gA := xCons (xP (gVar 1)) (xNil)) (ρ := [p5, .int n, .int most, .int many, .int wd, .int m, .list (r.map enc3), .int jj, .int a, x9]) rfl rfl hp5 (size := n) (by omega) (by omega)
      -- another end
      obtain ⟨b', hif, b0', b1'⟩ : ∃ b', gIfS (gAnd (gTest (gOp hGt (gVar 4) (gC (.int (0))))) (gTest (gOp hEq (gVar 8) (gVar 9)))) (gSet 9 (gOp hMod (gOp hAdd (gVar 8) (gC (.int (1)))) (gVar 1))) (gNext) [p6, .int n, .int most, .int many, .int wd, .int m, .list (r.map enc3), .int jj, .int a, .int b]
          = .ok (.nx [p6, .int n, .int most, .int many, .int wd, .int m, .list (r.map enc3), .int jj, .int a, .int b']) ∧ 0 ≤ b' ∧ b' < n := by
        have hmd := hMod_i (i := a + 1) (show (0 : Int) < n by omega)
        by_cases c : 0 < wd ∧ a = b
        · refine ⟨(a + 1) % n, (if_t ?_).trans (set_ok (by simp only [bnd_ok, gVar_def, gC_def, gOp_def, gUn_def, gNil_def, gCons_def, gIf_def, gTest_def, gNot_def, gAnd_def, gOr_def, gAndV_def, gOrV_def, gNotV_def, gCB_def, asB_b, hAdd_i, hSub_i, hLt_i, hLe_i, hGt_i, hGe_i, hMul_r, hMul_l, hMod_i, hDiv_s, hBand_i, hShr_i, hPow_10_18, hPow_10_27, hPow_10_28, hPow_10_29, hPow_10_30, hEq_i, hNe_i, hLen_l, hLen_t, hMin2_i, hMax2_i, hMin3_i, hInt1_b, hInt1_i, hBits_i, hListOf_l, hListOf_t, hTupOf_l, hTupOf_t, gSeqS_def, gSet_def, gRet_def, gIfS_def, gNext_def, gTup_def, gLst_def, List.getElem?_cons_zero, List.getElem?_cons_succ, List.set_cons_zero, List.set_cons_succ, List.length_cons, List.length_nil, Nat.zero_add, Nat.reduceAdd, Nat.reduceLeDiff, Nat.reduceSub, Nat.reduceMul, if_true, if_false, Bool.false_eq_true, List.replicate_succ, List.replicate_zero, List.cons_append, List.nil_append, tgN, tgT, tgCons, tgNil, Int.reducePow, Int.reduceAdd, Int.reduceSub, Int.reduceMul, decide_true, decide_false, Bool.not_true, Bool.not_false, gChain_def, hIsa_int, hIsa_intb, hIsa_list, hIsa_tuple, gDrop_def, hmd])), (end_in n1).1, (end_in n1).2⟩
          simp only [bnd_ok, gVar_def, gC_def, gOp_def, gUn_def, gNil_def, gCons_def, gIf_def, gTest_def, gNot_def, gAnd_def, gOr_def, gAndV_def, gOrV_def, gNotV_def, gCB_def, asB_b, hAdd_i, hSub_i, hLt_i, hLe_i, hGt_i, hGe_i, hMul_r, hMul_l, hMod_i, hDiv_s, hBand_i, hShr_i, hPow_10_18, hPow_10_27, hPow_10_28, hPow_10_29, hPow_10_30, hEq_i, hNe_i, hLen_l, hLen_t, hMin2_i, hMax2_i, hMin3_i, hInt1_b, hInt1_i, hBits_i, hListOf_l, hListOf_t, hTupOf_l, hTupOf_t, gSeqS_def, gSet_def, gRet_def, gIfS_def, gNext_def, gTup_def, gLst_def, List.getElem?_cons_zero, List.getElem?_cons_succ, List.set_cons_zero, List.set_cons_succ, List.length_cons, List.length_nil, Nat.zero_add, Nat.reduceAdd, Nat.reduceLeDiff, Nat.reduceSub, Nat.reduceMul, if_true, if_false, Bool.false_eq_true, List.replicate_succ, List.replicate_zero, List.cons_append, List.nil_append, tgN, tgT, tgCons, tgNil, Int.reducePow, Int.reduceAdd, Int.reduceSub, Int.reduceMul, decide_true, decide_false, Bool.not_true, Bool.not_false, gChain_def, hIsa_int, hIsa_intb, hIsa_list, hIsa_tuple, gDrop_def]
          simp [c.1, c.2]
        · refine ⟨b, (if_f ?_).trans rfl, b0, b1⟩
          simp only [bnd_ok, gVar_def, gC_def, gOp_def, gUn_def, gNil_def, gCons_def, gIf_def, gTest_def, gNot_def, gAnd_def, gOr_def, gAndV_def, gOrV_def, gNotV_def, gCB_def, asB_b, hAdd_i, hSub_i, hLt_i, hLe_i, hGt_i, hGe_i, hMul_r, hMul_l, hMod_i, hDiv_s, hBand_i, hShr_i, hPow_10_18, hPow_10_27, hPow_10_28, hPow_10_29, hPow_10_30, hEq_i, hNe_i, hLen_l, hLen_t, hMin2_i, hMax2_i, hMin3_i, hInt1_b, hInt1_i, hBits_i, hListOf_l, hListOf_t, hTupOf_l, hTupOf_t, gSeqS_def, gSet_def, gRet_def, gIfS_def, gNext_def, gTup_def, gLst_def, List.getElem?_cons_zero, List.getElem?_cons_succ, List.set_cons_zero, List.set_cons_succ, List.length_cons, List.length_nil, Nat.zero_add, Nat.reduceAdd, Nat.reduceLeDiff, Nat.reduceSub, Nat.reduceMul, if_true, if_false, Bool.false_eq_true, List.replicate_succ, List.replicate_zero, List.cons_append, List.nil_append, tgN, tgT, tgCons, tgNil, Int.reducePow, Int.reduceAdd, Int.reduceSub, Int.reduceMul, decide_true, decide_false, Bool.not_true, Bool.not_false, gChain_def, hIsa_int, hIsa_intb, hIsa_list, hIsa_tuple, gDrop_def]
          by_cases c1 : 0 < wd
          · have : ¬ a = b := fun z => c ⟨c1, z⟩
            simp [c1, this]
          · simp [c1]
      -- the ends of the tie ahead
      obtain ⟨a2, b2, p7, hif2, a20, a21, b20, b21, hp7⟩ : ∃ a2 b2 p7, xIfS (xAnd (xPT (gTest (gOp hGt (gVar 7) (gC (.int (0)))))) (xTest (xOp hEq (xCallM .la 2 f_l_take 0 (xCons (xP (gC (.int (4)))) (xNil))) (xP (gC (.int (0))))))) (gSeqS (gSet 8 (gOp hIx (gOp hIx (gVar 6) (gOp hSub (gVar 7) (gC (.int (1))))) (gC (.int (1))))) (gSet 9 (gOp hIx (gOp hIx (gVar 6) (gOp hSub (gVar 7) (gC (.int (1))))) (gC (.int (2)))))) (gNext) [p6, .int n, .int most, .int many, .int wd, .int m, .list (r.map enc3), .int jj, .int a, .int b']
          = .ok (.nx [p7, .int n, .int most, .int many, .int wd, .int m, .list (r.map enc3), .int jj, .int a2, .int b2]) ∧ 0 ≤ a2 ∧ a2 < n ∧ 0 ≤ b2 ∧ b2 < n ∧ PoolOk p7 := by
        by_cases c : 0 < jj
        · obtain ⟨c2, p7, e7, _, _, hp7⟩ := tk_ok (i := 0) (gA := xCons (xP (gC (.int (4)))) (xNil)) (ρ := [p6, .int n, .int most, .int many, .int wd, .int m, .list (r.map enc3), .int jj, .int a, .int b']) rfl rfl hp6 (by omega : (0 : Int) < 4) (by omega)
          have e7 : xCallM .la 2 f_l_take 0 (xCons (xP (gC (.int (4)))) xNil) [p6, .int n, .int most, .int many, .int wd, .int m, .list (r.map enc3), .int jj, .int a, .int b'] = .ok (.int c2, [p7, .int n, .int most, .int many, .int wd, .int m, .list (r.map enc3), .int jj, .int a, .int b']) := e7
          have ht : xAnd (xPT (gTest (gOp hGt (gVar 7) (gC (.int (0)))))) (xTest (xOp hEq (xCallM .la 2 f_l_take 0 (xCons (xP (gC (.int (4)))) (xNil))) (xP (gC (.int (0)))))) [p6, .int n, .int most, .int many, .int wd, .int m, .list (r.map enc3), .int jj, .int a, .int b'] = .ok (c2 == 0, [p7, .int n, .int most, .int many, .int wd, .int m, .list (r.map enc3), .int jj, .int a, .int b']) := by
            have q : gTest (gOp hGt (gVar 7) (gC (.int (0)))) [p6, .int n, .int most, .int many, .int wd, .int m, .list (r.map enc3), .int jj, .int a, .int b'] = .ok true := by
              simp only [bnd_ok, gVar_def, gC_def, gOp_def, gUn_def, gNil_def, gCons_def, gIf_def, gTest_def, gNot_def, gAnd_def, gOr_def, gAndV_def, gOrV_def, gNotV_def, gCB_def, asB_b, hAdd_i, hSub_i, hLt_i, hLe_i, hGt_i, hGe_i, hMul_r, hMul_l, hMod_i, hDiv_s, hBand_i, hShr_i, hPow_10_18, hPow_10_27, hPow_10_28, hPow_10_29, hPow_10_30, hEq_i, hNe_i, hLen_l, hLen_t, hMin2_i, hMax2_i, hMin3_i, hInt1_b, hInt1_i, hBits_i, hListOf_l, hListOf_t, hTupOf_l, hTupOf_t, gSeqS_def, gSet_def, gRet_def, gIfS_def, gNext_def, gTup_def, gLst_def, List.getElem?_cons_zero, List.getElem?_cons_succ, List.set_cons_zero, List.set_cons_succ, List.length_cons, List.length_nil, Nat.zero_add, Nat.reduceAdd, Nat.reduceLeDiff, Nat.reduceSub, Nat.reduceMul, if_true, if_false, Bool.false_eq_true, List.replicate_succ, List.replicate_zero, List.cons_append, List.nil_append, tgN, tgT, tgCons, tgNil, Int.reducePow, Int.reduceAdd, Int.reduceSub, Int.reduceMul, decide_true, decide_false, Bool.not_true, Bool.not_false, gChain_def, hIsa_int, hIsa_intb, hIsa_list, hIsa_tuple, gDrop_def, c]
            rw [xAnd_def, xPT_def, q, bnd_ok, bnd_ok, if_pos rfl, xTest_def, xOp_def, e7, bnd_ok, xP_def, gC_def, bnd_ok, bnd_ok]
            simp only [hEq_i, bnd_ok, asB_b]
          cases e : c2 == 0 with
          | true =>
            have hlt : (jj - 1).toNat < r.length := by omega
            have hx : hIx (.list (r.map enc3)) (.int (jj - 1)) = .ok (enc3 (r[(jj - 1).toNat])) := hIx_l (atI_map enc3 (by omega) (by omega))
            obtain ⟨_, g1, g2, g3⟩ := hg.ok _ (List.getElem_mem hlt)
            refine ⟨(r[(jj - 1).toNat]).2.1, (r[(jj - 1).toNat]).2.2, p7, (xIf_t (e ▸ ht)).trans ?_, g1, by omega, by omega, g3, hp7⟩
            generalize r[(jj - 1).toNat] = tt at *
            refine seq_step (set_ok (d := .int tt.2.1) ?_) ?_
            · simp only [bnd_ok, gVar_def, gC_def, gOp_def, gUn_def, gNil_def, gCons_def, gIf_def, gTest_def, gNot_def, gAnd_def, gOr_def, gAndV_def, gOrV_def, gNotV_def, gCB_def, asB_b, hAdd_i, hSub_i, hLt_i, hLe_i, hGt_i, hGe_i, hMul_r, hMul_l, hMod_i, hDiv_s, hBand_i, hShr_i, hPow_10_18, hPow_10_27, hPow_10_28, hPow_10_29, hPow_10_30, hEq_i, hNe_i, hLen_l, hLen_t, hMin2_i, hMax2_i, hMin3_i, hInt1_b, hInt1_i, hBits_i, hListOf_l, hListOf_t, hTupOf_l, hTupOf_t, gSeqS_def, gSet_def, gRet_def, gIfS_def, gNext_def, gTup_def, gLst_def, List.getElem?_cons_zero, List.getElem?_cons_succ, List.set_cons_zero, List.set_cons_succ, List.length_cons, List.length_nil, Nat.zero_add, Nat.reduceAdd, Nat.reduceLeDiff, Nat.reduceSub, Nat.reduceMul, if_true, if_false, Bool.false_eq_true, List.replicate_succ, List.replicate_zero, List.cons_append, List.nil_append, tgN, tgT, tgCons, tgNil, Int.reducePow, Int.reduceAdd, Int.reduceSub, Int.reduceMul, decide_true, decide_false, Bool.not_true, Bool.not_false, gChain_def, hIsa_int, hIsa_intb, hIsa_list, hIsa_tuple, gDrop_def, hx]
              rfl
            · refine (set_ok (d := .int tt.2.2) ?_).trans rfl
              dsimp only [List.set]
              simp only [bnd_ok, gVar_def, gC_def, gOp_def, gUn_def, gNil_def, gCons_def, gIf_def, gTest_def, gNot_def, gAnd_def, gOr_def, gAndV_def, gOrV_def, gNotV_def, gCB_def, asB_b, hAdd_i, hSub_i, hLt_i, hLe_i, hGt_i, hGe_i, hMul_r, hMul_l, hMod_i, hDiv_s, hBand_i, hShr_i, hPow_10_18, hPow_10_27, hPow_10_28, hPow_10_29, hPow_10_30, hEq_i, hNe_i, hLen_l, hLen_t, hMin2_i, hMax2_i, hMin3_i, hInt1_b, hInt1_i, hBits_i, hListOf_l, hListOf_t, hTupOf_l, hTupOf_t, gSeqS_def, gSet_def, gRet_def, gIfS_def, gNext_def, gTup_def, gLst_def, List.getElem?_cons_zero, List.getElem?_cons_succ, List.set_cons_zero, List.set_cons_succ, List.length_cons, List.length_nil, Nat.zero_add, Nat.reduceAdd, Nat.reduceLeDiff, Nat.reduceSub, Nat.reduceMul, if_true, if_false, Bool.false_eq_true, List.replicate_succ, List.replicate_zero, List.cons_append, List.nil_append, tgN, tgT, tgCons, tgNil, Int.reducePow, Int.reduceAdd, Int.reduceSub, Int.reduceMul, decide_true, decide_false, Bool.not_true, Bool.not_false, gChain_def, hIsa_int, hIsa_intb, hIsa_list, hIsa_tuple, gDrop_def, hx]
              rfl
          | false => exact ⟨a, b', p7, (xIf_f (e ▸ ht)).trans rfl, a0, a1, b0', b1', hp7⟩
        · refine ⟨a, b', p6, (xIf_f (ρ' := [p6, .int n, .int most, .int many, .int wd, .int m, .list (r.map enc3), .int jj, .int a, .int b']) ?_).trans rfl, a0, a1, b0', b1', hp6⟩
          rw [xAnd_def, xPT_def]
          have : decide (0 < jj) = false := decide_eq_false c
          simp only [bnd_ok, gVar_def, gC_def, gOp_def, gUn_def, gNil_def, gCons_def, gIf_def, gTest_def, gNot_def, gAnd_def, gOr_def, gAndV_def, gOrV_def, gNotV_def, gCB_def, asB_b, hAdd_i, hSub_i, hLt_i, hLe_i, hGt_i, hGe_i, hMul_r, hMul_l, hMod_i, hDiv_s, hBand_i, hShr_i, hPow_10_18, hPow_10_27, hPow_10_28, hPow_10_29, hPow_10_30, hEq_i, hNe_i, hLen_l, hLen_t, hMin2_i, hMax2_i, hMin3_i, hInt1_b, hInt1_i, hBits_i, hListOf_l, hListOf_t, hTupOf_l, hTupOf_t, gSeqS_def, gSet_def, gRet_def, gIfS_def, gNext_def, gTup_def, gLst_def, List.getElem?_cons_zero, List.getElem?_cons_succ, List.set_cons_zero, List.set_cons_succ, List.length_cons, List.length_nil, Nat.zero_add, Nat.reduceAdd, Nat.reduceLeDiff, Nat.reduceSub, Nat.reduceMul, if_true, if_false, Bool.false_eq_true, List.replicate_succ, List.replicate_zero, List.cons_append, List.nil_append, tgN, tgT, tgCons, tgNil, Int.reducePow, Int.reduceAdd, Int.reduceSub, Int.reduceMul, decide_true, decide_false, Bool.not_true, Bool.not_false, gChain_def, hIsa_int, hIsa_intb, hIsa_list, hIsa_tuple, gDrop_def, this]
      -- the next moment
      obtain ⟨sz, hsz, sz0, sz1⟩ : ∃ sz : Int, hIx (.list ([1, 3, 1000].map .int)) (.int wd) = .ok (.int sz) ∧ 1 ≤ sz ∧ sz ≤ 1000 := ix_list (xs := [1, 3, 1000]) (lo := 1) (hi := 1000) w0 w1 (by decide)
      obtain ⟨fa, hfa, fa0, fa1⟩ : ∃ sz : Int, hIx (.list ([1, 1, 10000000000000000000000000].map .int)) (.int wd) = .ok (.int sz) ∧ 1 ≤ sz ∧ sz ≤ 10000000000000000000000000 := ix_list (xs := [1, 1, 10000000000000000000000000]) (lo := 1) (hi := 10000000000000000000000000) w0 w1 (by decide)
      generalize hr2 : r ++ [(m, (if b2 < a2 then b2 else a2), (if b2 > a2 then b2 else a2))] = r2
      obtain ⟨w, p8, e8, ww0, ww1, hp8⟩ := tk_ok (i := 0) (gA := xCons (xP (gOp hIx (gLst (gCons (gC (.int (1))) (gCons (gC (.int (3))) (gCons (gC (.int (1000))) (gNil))))) (gVar 4))) (xNil)) (ρ := [p7, .int n, .int most, .int many, .int wd, .int m, .list (r2.map enc3), .int jj, .int a2, .int b2]) (ρ' := [p7, .int n, .int most, .int many, .int wd, .int m, .list (r2.map enc3), .int jj, .int a2, .int b2]) (size := sz) (by
        rw [xCons_def, xP_def]
        have : gOp hIx (gLst (gCons (gC (.int (1))) (gCons (gC (.int (3))) (gCons (gC (.int (1000))) (gNil))))) (gVar 4) [p7, .int n, .int most, .int many, .int wd, .int m, .list (r2.map enc3), .int jj, .int a2, .int b2] = .ok (.int sz) := hsz
        rw [this]
        rfl) rfl hp7 (by omega) (by omega)
      have e8 : xCallM .la 2 f_l_take 0 (xCons (xP (gOp hIx (gLst (gCons (gC (.int (1))) (gCons (gC (.int (3))) (gCons (gC (.int (1000))) (gNil))))) (gVar 4))) xNil) [p7, .int n, .int most, .int many, .int wd, .int m, .list (r2.map enc3), .int jj, .int a2, .int b2] = .ok (.int w, [p8, .int n, .int most, .int many, .int wd, .int m, .list (r2.map enc3), .int jj, .int a2, .int b2]) := e8
      have hfx : gOp hIx (gLst (gCons (gC (.int (1))) (gCons (gC (.int (1))) (gCons (gOp hPow (gC (.int (10))) (gC (.int (25)))) (gNil))))) (gVar 4) [p8, .int n, .int most, .int many, .int wd, .int m, .list (r2.map enc3), .int jj, .int a2, .int b2] = .ok (.int fa) := by
        rw [gOp_def, gLst_def, gCons_def, gCons_def, gCons_def, gOp_def]
        simp only [gC_def, bnd_ok, hPow25, gNil_def, List.length_cons, List.length_nil, Nat.zero_add, Nat.reduceAdd, Nat.reduceLeDiff, if_true, gVar_def, List.getElem?_cons_zero, List.getElem?_cons_succ]
        exact hfa
      have hmul : hMul (.int w) (.int fa) = .ok (.int (w * fa)) := hMul_l (by omega) (by omega)
      have wf0 : 0 ≤ w * fa := Int.mul_nonneg ww0 (by omega)
      have wf1 : w * fa ≤ 999 * 10000000000000000000000000 := Int.mul_le_mul (by omega) fa1 (by omega) (by omega)
      have hi60 : i < 60 := by omega
      have qb : m ≤ 1000000000000000000000000000000 := by omega
      have hg2 : Good n r2 := by rw [← hr2]; exact rec_snoc' (by omega) hg hm q0 qb a20 a21 b20 b21
      refine ⟨[p4, .int n, .int most, .int many, .int wd, .int m, .list (r.map enc3), .int jj, x8, x9], _, rfl, .inl ?_, r2, p8, m + 1 + w * fa, .int jj, .int a2, .int b2, rfl, hp8, by rw [← hr2, List.length_append, hl]; rfl, hg2, ?_, by omega, by omega⟩
      · unfold g_l_record_L1
        refine seq_step (xset_ok e5) ?_
        dsimp only [List.set]
        refine seq_step (xset_ok e6) ?_
        dsimp only [List.set]
        refine seq_step hif ?_
        refine seq_step hif2 ?_
        refine seq_step (ρ' := [p7, .int n, .int most, .int many, .int wd, .int m, .list (r2.map enc3), .int jj, .int a2, .int b2]) ?_ ?_
        · refine Eq.trans (gApp_l (i := 6) (ds := r.map enc3) (d := enc3 (m, (if b2 < a2 then b2 else a2), (if b2 > a2 then b2 else a2))) rfl ?_ (by rw [List.length_map]; omega)) ?_
          · simp only [bnd_ok, gVar_def, gC_def, gOp_def, gUn_def, gNil_def, gCons_def, gIf_def, gTest_def, gNot_def, gAnd_def, gOr_def, gAndV_def, gOrV_def, gNotV_def, gCB_def, asB_b, hAdd_i, hSub_i, hLt_i, hLe_i, hGt_i, hGe_i, hMul_r, hMul_l, hMod_i, hDiv_s, hBand_i, hShr_i, hPow_10_18, hPow_10_27, hPow_10_28, hPow_10_29, hPow_10_30, hEq_i, hNe_i, hLen_l, hLen_t, hMin2_i, hMax2_i, hMin3_i, hInt1_b, hInt1_i, hBits_i, hListOf_l, hListOf_t, hTupOf_l, hTupOf_t, gSeqS_def, gSet_def, gRet_def, gIfS_def, gNext_def, gTup_def, gLst_def, List.getElem?_cons_zero, List.getElem?_cons_succ, List.set_cons_zero, List.set_cons_succ, List.length_cons, List.length_nil, Nat.zero_add, Nat.reduceAdd, Nat.reduceLeDiff, Nat.reduceSub, Nat.reduceMul, if_true, if_false, Bool.false_eq_true, List.replicate_succ, List.replicate_zero, List.cons_append, List.nil_append, tgN, tgT, tgCons, tgNil, Int.reducePow, Int.reduceAdd, Int.reduceSub, Int.reduceMul, decide_true, decide_false, Bool.not_true, Bool.not_false, gChain_def, hIsa_int, hIsa_intb, hIsa_list, hIsa_tuple, gDrop_def]
            rfl
          · rw [map3_snoc, hr2]
            rfl
        · refine (xset_ok (ρ' := [p8, .int n, .int most, .int many, .int wd, .int m, .list (r2.map enc3), .int jj, .int a2, .int b2]) (d := .int (m + 1 + w * fa)) ?_).trans rfl
          have q : gOp hAdd (gVar 5) (gC (.int (1))) [p7, .int n, .int most, .int many, .int wd, .int m, .list (r2.map enc3), .int jj, .int a2, .int b2] = .ok (.int (m + 1)) := rfl
          rw [xOp_def, xP_def, q, bnd_ok, bnd_ok, xOp_def, e8, bnd_ok, xP_def, hfx, bnd_ok, bnd_ok]
          simp only [hmul, bnd_ok, hAdd_i]
      · intro t ht
        rw [← hr2] at ht
        rcases List.mem_append.mp ht with h | h
        · have := hm t h
          omega
        · rw [List.mem_singleton.mp h]
          show m < _
          omega)
  rw [List.length_range] at hl
  refine ⟨r, p4, fnL_rt ?_, hg, by omega, hp4⟩
  show g_l_record [p, .int n, .int most, .none, .none, .none, .none, .none, .none, .none] = _
  unfold g_l_record
  refine seq_step (xset_ok e1) ?_
  dsimp only [List.set]
  refine seq_step (xset_ok e2) ?_
  dsimp only [List.set]
  refine seq_step (xset_ok e3) ?_
  dsimp only [List.set]
  refine seq_step (set_ok (d := .list []) (by rfl)) ?_
  dsimp only [List.set]
  refine seq_step (for_ok (ds := (List.range many.toNat).map fun (j : Nat) => PyData.int (0 + (j : Int))) ?_ hf) ?_
  · refine (rng1_ok (j := many) (by rfl) (by omega) (by omega)).trans ?_
    unfold rangeD
    rw [Int.sub_zero]
  · exact xretO_ok rfl rfl hp4.argD
end K40
end T_K40A

section T_K40B
set_option linter.all false
set_option maxRecDepth 100000
set_option maxHeartbeats 4000000
/-! K40B: rims, sides, hang_of. -/
namespace K40
open PySem Sim FamA FamL Flow FlowL

def encL (s : List Int) : Dt := .tuple (s.map .int)
def rimM (r : List T3) (side : List Int) : List Int := (r.filter (rimB (sideB side))).map (fun u : T3 => u.1)
theorem rimM_len (r : List T3) (s : List Int) : (rimM r s).length = rimN r (sideB s) := by unfold rimM rimN; rw [List.length_map]
theorem map1 (l : List T3) : l.map (fun t => PyData.int t.1) = (l.map (fun u : T3 => u.1)).map PyData.int := by rw [List.map_map]; rfl
theorem lrim_ok (r : List T3) (side : List Int) (hl : r.length ≤ 1000) : f_l_rim [.list (r.map enc3), encL side] = .ok (.list ((rimM r side).map .int)) := by
  refine fnL_rt ?_
  show g_l_rim [.list (r.map enc3), .tuple (side.map .int), .none, .none, .none] = _
  unfold g_l_rim
  have h := gLc_map enc3 (rimB (sideB side)) (fun t => PyData.int t.1) (gi := gSeq (gVar 0)) (h := tgT (tgCons (tgN 2) (tgCons (tgN 3) (tgCons (tgN 4) tgNil)))) (gt := gTest (gOp hNe (gOp hIn (gVar 3) (gVar 1)) (gOp hIn (gVar 4) (gVar 1)))) (ge := gVar 2)
    (ρ := [.list (r.map enc3), .tuple (side.map .int), .none, .none, .none]) (xs := r) rfl (by omega) (fun t _ => ⟨_, rfl, by
      simp only [bnd_ok, gVar_def, gC_def, gOp_def, gUn_def, gNil_def, gCons_def, gIf_def, gTest_def, gNot_def, gAnd_def, gOr_def, gAndV_def, gOrV_def, gNotV_def, gCB_def, asB_b, hAdd_i, hSub_i, hLt_i, hLe_i, hGt_i, hGe_i, hMul_r, hMul_l, hMod_i, hDiv_s, hBand_i, hShr_i, hPow_10_18, hPow_10_27, hPow_10_28, hPow_10_29, hPow_10_30, hEq_i, hNe_i, hLen_l, hLen_t, hMin2_i, hMax2_i, hMin3_i, hInt1_b, hInt1_i, hBits_i, hListOf_l, hListOf_t, hTupOf_l, hTupOf_t, gSeqS_def, gSet_def, gRet_def, gIfS_def, gNext_def, gTup_def, gLst_def, List.getElem?_cons_zero, List.getElem?_cons_succ, List.set_cons_zero, List.set_cons_succ, List.length_cons, List.length_nil, Nat.zero_add, Nat.reduceAdd, Nat.reduceLeDiff, Nat.reduceSub, Nat.reduceMul, if_true, if_false, Bool.false_eq_true, List.replicate_succ, List.replicate_zero, List.cons_append, List.nil_append, tgN, tgT, tgCons, tgNil, Int.reducePow, Int.reduceAdd, Int.reduceSub, Int.reduceMul, decide_true, decide_false, Bool.not_true, Bool.not_false, gChain_def, hIsa_int, hIsa_intb, hIsa_list, hIsa_tuple, gDrop_def, hIn_intsT, hNe_b]
      rfl, fun _ => rfl⟩)
  rw [map1] at h
  refine ret_ok ?_
  rw [gPurN_def, h, bnd_ok]
  exact if_pos (pureA_ints _)
theorem sides_ok {n : Int} (n1 : 1 ≤ n) (n10 : n ≤ 10) : f_l_sides [.int n] = .ok (.list (((List.range (2 ^ (n - 1).toNat - 1)).map fun (i : Nat) => sideOf n (1 + (i : Int))).map encL)) := by
  have hsh : hShl (.int 1) (.int (n - 1)) = .ok (.int (1 * 2 ^ (n - 1).toNat)) := by
    show (if cPow 1 (n - 1) then O.ok (PyData.int (1 * 2 ^ (n - 1).toNat)) else .bad) = _
    rw [if_pos]
    unfold cPow
    rw [decide_eq_true (by omega), decide_eq_true (by omega)]
    rfl
  have hp : (1 : Int) * 2 ^ (n - 1).toNat ≤ 512 ∧ 1 ≤ (1 : Int) * 2 ^ (n - 1).toNat ∧ ((1 : Int) * 2 ^ (n - 1).toNat - 1).toNat = 2 ^ (n - 1).toNat - 1 := by
    have : (n - 1).toNat = 0 ∨ (n - 1).toNat = 1 ∨ (n - 1).toNat = 2 ∨ (n - 1).toNat = 3 ∨ (n - 1).toNat = 4 ∨ (n - 1).toNat = 5 ∨ (n - 1).toNat = 6 ∨ (n - 1).toNat = 7 ∨ (n - 1).toNat = 8 ∨ (n - 1).toNat = 9 := by omega
    rcases this with h | h | h | h | h | h | h | h | h | h <;> rw [h] <;> decide
  rw [← hp.2.2]
  generalize (1 : Int) * 2 ^ (n - 1).toNat = T at *
  obtain ⟨ρ', hf, F, x2, rfl, hF⟩ := forE_ix (fun (j : Nat) => PyData.int (1 + (j : Int))) (h := tgN 2) (b := g_l_sides_L1) (List.range (T - 1).toNat)
    (fun i ρ => ∃ (F : List (List Int)) (x2 : Dt), ρ = [.int n, .list (F.map encL), x2, .none] ∧ F = (List.range i).map fun (i : Nat) => sideOf n (1 + (i : Int)))
    (ρ := [.int n, .list (([] : List (List Int)).map encL), .none, .none]) ⟨[], .none, rfl, rfl⟩ (by
      rintro i ρ hi ⟨F, x2, rfl, hF⟩
      rw [List.length_range] at hi
      have hFl : F.length = i := by rw [hF, List.length_map, List.length_range]
      have ei : (List.range (T - 1).toNat)[i]'(by rw [List.length_range]; exact hi) = i := List.getElem_range ..
      generalize hgj : (1 : Int) + ((List.range (T - 1).toNat)[i]'(by rw [List.length_range]; exact hi) : Nat) = jj
      rw [ei] at hgj
      have hlc : gLc (gRng2 (gCons (gC (.int (1))) (gCons (gVar 0) (gNil)))) (tgN 3) (gTest (gOp hEq (gOp hBand (gOp hShr (gVar 2) (gOp hSub (gVar 3) (gC (.int (1))))) (gC (.int (1)))) (gC (.int (1))))) (gVar 3) [.int n, .list (F.map encL), .int jj, .none]
          = .ok (.list ((sideOf n jj).map .int)) := by
        unfold sideOf
        rw [gLc_map (fun (j : Nat) => PyData.int (1 + (j : Int))) (fun (j : Nat) => Builtin.bitAnd (jj / 2 ^ (1 + (j : Int) - 1).toNat) 1 == 1) (fun (j : Nat) => PyData.int (1 + (j : Int))) (xs := List.range (n - 1).toNat) (by
          rw [rng2_ok (i := 1) (j := n) (by rfl) (by omega) (by omega) (by omega) (by omega)]
          rfl) (by rw [List.length_range]; omega) fun j hj => ⟨[.int n, .list (F.map encL), .int jj, .int (1 + (j : Int))], rfl, ?_, fun _ => rfl⟩, List.map_map]
        · rfl
        · have hs := hShr_i (i := jj) (show (0 : Int) ≤ 1 + (j : Int) - 1 by omega)
          simp only [bnd_ok, gVar_def, gC_def, gOp_def, gUn_def, gNil_def, gCons_def, gIf_def, gTest_def, gNot_def, gAnd_def, gOr_def, gAndV_def, gOrV_def, gNotV_def, gCB_def, asB_b, hAdd_i, hSub_i, hLt_i, hLe_i, hGt_i, hGe_i, hMul_r, hMul_l, hMod_i, hDiv_s, hBand_i, hShr_i, hPow_10_18, hPow_10_27, hPow_10_28, hPow_10_29, hPow_10_30, hEq_i, hNe_i, hLen_l, hLen_t, hMin2_i, hMax2_i, hMin3_i, hInt1_b, hInt1_i, hBits_i, hListOf_l, hListOf_t, hTupOf_l, hTupOf_t, gSeqS_def, gSet_def, gRet_def, gIfS_def, gNext_def, gTup_def, gLst_def, List.getElem?_cons_zero, List.getElem?_cons_succ, List.set_cons_zero, List.set_cons_succ, List.length_cons, List.length_nil, Nat.zero_add, Nat.reduceAdd, Nat.reduceLeDiff, Nat.reduceSub, Nat.reduceMul, if_true, if_false, Bool.false_eq_true, List.replicate_succ, List.replicate_zero, List.cons_append, List.nil_append, tgN, tgT, tgCons, tgNil, Int.reducePow, Int.reduceAdd, Int.reduceSub, Int.reduceMul, decide_true, decide_false, Bool.not_true, Bool.not_false, gChain_def, hIsa_int, hIsa_intb, hIsa_list, hIsa_tuple, gDrop_def, hs]
      refine ⟨[.int n, .list (F.map encL), .int jj, .none], _, rfl, .inl ?_, F ++ [sideOf n jj], .int jj, rfl, by rw [hF, List.range_succ, List.map_append, ← hgj]; rfl⟩
      unfold g_l_sides_L1
      generalize sideOf n jj = S at *
      refine (gApp_l (i := 1) (ds := F.map encL) (d := encL S) rfl ?_ (by rw [List.length_map]; omega)).trans ?_
      · rw [gCB_def, gCons_def, hlc]
        rfl
      · rw [List.map_append]
        rfl)
  rw [List.length_range] at hF
  rw [← hF]
  refine fnL_rt ?_
  show g_l_sides [.int n, .none, .none, .none] = _
  unfold g_l_sides
  refine seq_step (set_ok (d := .list (([] : List (List Int)).map encL)) (by rfl)) ?_
  dsimp only [List.set]
  refine seq_step (for_ok (ds := (List.range (T - 1).toNat).map fun (j : Nat) => PyData.int (1 + (j : Int))) ?_ hf) ?_
  · rw [rng2_ok (i := 1) (j := T) (by simp only [bnd_ok, gVar_def, gC_def, gOp_def, gUn_def, gNil_def, gCons_def, gIf_def, gTest_def, gNot_def, gAnd_def, gOr_def, gAndV_def, gOrV_def, gNotV_def, gCB_def, asB_b, hAdd_i, hSub_i, hLt_i, hLe_i, hGt_i, hGe_i, hMul_r, hMul_l, hMod_i, hDiv_s, hBand_i, hShr_i, hPow_10_18, hPow_10_27, hPow_10_28, hPow_10_29, hPow_10_30, hEq_i, hNe_i, hLen_l, hLen_t, hMin2_i, hMax2_i, hMin3_i, hInt1_b, hInt1_i, hBits_i, hListOf_l, hListOf_t, hTupOf_l, hTupOf_t, gSeqS_def, gSet_def, gRet_def, gIfS_def, gNext_def, gTup_def, gLst_def, List.getElem?_cons_zero, List.getElem?_cons_succ, List.set_cons_zero, List.set_cons_succ, List.length_cons, List.length_nil, Nat.zero_add, Nat.reduceAdd, Nat.reduceLeDiff, Nat.reduceSub, Nat.reduceMul, if_true, if_false, Bool.false_eq_true, List.replicate_succ, List.replicate_zero, List.cons_append, List.nil_append, tgN, tgT, tgCons, tgNil, Int.reducePow, Int.reduceAdd, Int.reduceSub, Int.reduceMul, decide_true, decide_false, Bool.not_true, Bool.not_false, gChain_def, hIsa_int, hIsa_intb, hIsa_list, hIsa_tuple, gDrop_def, hsh]) (by omega) (by omega) (by omega) (by omega)]
    rfl
  · exact ret_ok (by rfl)

/-! ### hang_of -/
theorem pure3 : ∀ r : List T3, pureA (r.map enc3) = true
  | [] => rfl
  | t :: r => by
    rw [List.map_cons]
    unfold pureA
    rw [pure3 r]
    rfl
def since (t : Int) (r : List T3) : List T3 := r.filter fun s => decide (t ≤ s.1)
theorem since_ok (r : List T3) (t : Int) (hl : r.length ≤ 1000) : f_since [.list (r.map enc3), .int t] = .ok (.list ((since t r).map enc3)) := by
  refine fnL_rt ?_
  show g_since [.list (r.map enc3), .int t, .none] = _
  unfold g_since
  have h := gLc_map enc3 (fun s => decide (t ≤ s.1)) enc3 (gi := gSeq (gVar 0)) (h := tgN 2) (gt := gTest (gOp hGe (gOp hIx (gVar 2) (gC (.int (0)))) (gVar 1))) (ge := gVar 2)
    (ρ := [.list (r.map enc3), .int t, .none]) (xs := r) rfl (by omega) (fun s _ => ⟨_, rfl, by simp only [bnd_ok, gVar_def, gC_def, gOp_def, gUn_def, gNil_def, gCons_def, gIf_def, gTest_def, gNot_def, gAnd_def, gOr_def, gAndV_def, gOrV_def, gNotV_def, gCB_def, asB_b, hAdd_i, hSub_i, hLt_i, hLe_i, hGt_i, hGe_i, hMul_r, hMul_l, hMod_i, hDiv_s, hBand_i, hShr_i, hPow_10_18, hPow_10_27, hPow_10_28, hPow_10_29, hPow_10_30, hEq_i, hNe_i, hLen_l, hLen_t, hMin2_i, hMax2_i, hMin3_i, hInt1_b, hInt1_i, hBits_i, hListOf_l, hListOf_t, hTupOf_l, hTupOf_t, gSeqS_def, gSet_def, gRet_def, gIfS_def, gNext_def, gTup_def, gLst_def, List.getElem?_cons_zero, List.getElem?_cons_succ, List.set_cons_zero, List.set_cons_succ, List.length_cons, List.length_nil, Nat.zero_add, Nat.reduceAdd, Nat.reduceLeDiff, Nat.reduceSub, Nat.reduceMul, if_true, if_false, Bool.false_eq_true, List.replicate_succ, List.replicate_zero, List.cons_append, List.nil_append, tgN, tgT, tgCons, tgNil, Int.reducePow, Int.reduceAdd, Int.reduceSub, Int.reduceMul, decide_true, decide_false, Bool.not_true, Bool.not_false, gChain_def, hIsa_int, hIsa_intb, hIsa_list, hIsa_tuple, gDrop_def, ix3_0], fun _ => rfl⟩)
  refine ret_ok ?_
  rw [gPurN_def, h, bnd_ok]
  exact if_pos (pure3 _)
theorem place_ok (n z : Int) : f_is_place [.int n, .int z] = .ok (.bool (decide (0 ≤ z) && decide (z < n))) := by
  refine fnN_rt ?_
  show g_is_place [.int n, .int z] = _
  unfold g_is_place
  refine ret_ok ?_
  simp only [bnd_ok, gVar_def, gC_def, gOp_def, gUn_def, gNil_def, gCons_def, gIf_def, gTest_def, gNot_def, gAnd_def, gOr_def, gAndV_def, gOrV_def, gNotV_def, gCB_def, asB_b, hAdd_i, hSub_i, hLt_i, hLe_i, hGt_i, hGe_i, hMul_r, hMul_l, hMod_i, hDiv_s, hBand_i, hShr_i, hPow_10_18, hPow_10_27, hPow_10_28, hPow_10_29, hPow_10_30, hEq_i, hNe_i, hLen_l, hLen_t, hMin2_i, hMax2_i, hMin3_i, hInt1_b, hInt1_i, hBits_i, hListOf_l, hListOf_t, hTupOf_l, hTupOf_t, gSeqS_def, gSet_def, gRet_def, gIfS_def, gNext_def, gTup_def, gLst_def, List.getElem?_cons_zero, List.getElem?_cons_succ, List.set_cons_zero, List.set_cons_succ, List.length_cons, List.length_nil, Nat.zero_add, Nat.reduceAdd, Nat.reduceLeDiff, Nat.reduceSub, Nat.reduceMul, if_true, if_false, Bool.false_eq_true, List.replicate_succ, List.replicate_zero, List.cons_append, List.nil_append, tgN, tgT, tgCons, tgNil, Int.reducePow, Int.reduceAdd, Int.reduceSub, Int.reduceMul, decide_true, decide_false, Bool.not_true, Bool.not_false, gChain_def, hIsa_int, hIsa_intb, hIsa_list, hIsa_tuple, gDrop_def]
  cases decide (0 ≤ z) <;> simp
theorem fnN_nx {m : Nat} {g : Gs} {ds ρ : List Dt} (h : g (ds ++ List.replicate (m - ds.length) .none) = .ok (.nx ρ)) : fnN m g ds = .ok .none := by unfold fnN; rw [h]
theorem pair_ok {n a b : Int} (ha : 0 ≤ a ∧ a < n) (hb : 0 ≤ b ∧ b < n) (hab : a ≠ b) : f_look_at_pair [.int n, .int a, .int b] = .ok .none := by
  have e1 : gCallN 2 f_is_place (gCons (gVar 0) (gCons (gVar 1) (gNil))) [.int n, .int a, .int b] = _ := callN_ok (ds := [.int n, .int a]) rfl rfl (place_ok n a)
  have e2 : gCallN 2 f_is_place (gCons (gVar 0) (gCons (gVar 2) (gNil))) [.int n, .int a, .int b] = _ := callN_ok (ds := [.int n, .int b]) rfl rfl (place_ok n b)
  have : g_look_at_pair [.int n, .int a, .int b] = .ok (.nx [.int n, .int a, .int b]) := by
    unfold g_look_at_pair
    refine (if_f ?_).trans rfl
    rw [gOr_def, gOr_def, gNot_def, gNot_def, gTest_def, gTest_def, e1, e2]
    have h1 : (decide (0 ≤ a) && decide (a < n)) = true := by simp [ha]
    have h2 : (decide (0 ≤ b) && decide (b < n)) = true := by simp [hb]
    rw [h1, h2]
    simp only [bnd_ok, gVar_def, gC_def, gOp_def, gUn_def, gNil_def, gCons_def, gIf_def, gTest_def, gNot_def, gAnd_def, gOr_def, gAndV_def, gOrV_def, gNotV_def, gCB_def, asB_b, hAdd_i, hSub_i, hLt_i, hLe_i, hGt_i, hGe_i, hMul_r, hMul_l, hMod_i, hDiv_s, hBand_i, hShr_i, hPow_10_18, hPow_10_27, hPow_10_28, hPow_10_29, hPow_10_30, hEq_i, hNe_i, hLen_l, hLen_t, hMin2_i, hMax2_i, hMin3_i, hInt1_b, hInt1_i, hBits_i, hListOf_l, hListOf_t, hTupOf_l, hTupOf_t, gSeqS_def, gSet_def, gRet_def, gIfS_def, gNext_def, gTup_def, gLst_def, List.getElem?_cons_zero, List.getElem?_cons_succ, List.set_cons_zero, List.set_cons_succ, List.length_cons, List.length_nil, Nat.zero_add, Nat.reduceAdd, Nat.reduceLeDiff, Nat.reduceSub, Nat.reduceMul, if_true, if_false, Bool.false_eq_true, List.replicate_succ, List.replicate_zero, List.cons_append, List.nil_append, tgN, tgT, tgCons, tgNil, Int.reducePow, Int.reduceAdd, Int.reduceSub, Int.reduceMul, decide_true, decide_false, Bool.not_true, Bool.not_false, gChain_def, hIsa_int, hIsa_intb, hIsa_list, hIsa_tuple, gDrop_def]
    simp [hab]
  exact fnN_nx this
theorem told_of_ok {ts : List T3} {n a b : Int} {k : Nat} (hg : Good n ts) (hk : k < 900) (n10 : n ≤ 10) (ha : 0 ≤ a ∧ a < n) (hb : 0 ≤ b ∧ b < n) (hab : a ≠ b) :
    ∃ (c : Nat) (WS : List (List Int)) (sd : Dt), f_told_of [.int n, .list (ts.map enc3), .int a, .int b, .int k] = .ok (.tuple [.int c, .list (WS.map encW), sd]) ∧ Hng ts a b k c ∧ WaysOk ts a b c WS ∧ Side n ts a b k c sd := by
  have hl := hg.len
  obtain ⟨c, WS, sd, h1, h2, h3, h4⟩ := ways_and_side_ok hg.dst (by omega) hk ha (by omega) hb hab hg.inN
  refine ⟨c, WS, sd, fnN_rt ?_, h2, h3, h4⟩
  show g_told_of [.int n, .list (ts.map enc3), .int a, .int b, .int k, .none, .none] = _
  unfold g_told_of
  refine seq_step (asg_ok (ρ' := [.int n, .list (ts.map enc3), .int a, .int b, .int k, .list (WS.map encW), sd]) (callN_ok (ds := [.int n, .list (ts.map enc3), .int a, .int b, .int k]) rfl rfl h1) rfl) ?_
  refine ret_ok ?_
  have e : hLen [.list (WS.map encW)] = .ok (.int c) := by rw [hLen_l, List.length_map, h3.many]
  rw [gTup_def, gCons_def, gCB_def, gCons_def, gVar_def]
  simp only [List.getElem?_cons_zero, List.getElem?_cons_succ, bnd_ok, gNil_def, e, gCons_def, gVar_def]
  rfl
theorem hang_of_ok {r : List T3} {n a b t : Int} {k : Nat} (hg : Good n r) (hk : k < 900) (n10 : n ≤ 10) (ha : 0 ≤ a ∧ a < n) (hb : 0 ≤ b ∧ b < n) (hab : a ≠ b) :
    ∃ (c : Nat) (WS : List (List Int)) (sd : Dt), f_hang_of [.int n, .list (r.map enc3), .int a, .int b, .int k, .int t] = .ok (.tuple [.int c, .list (WS.map encW), sd]) ∧ Hng (since t r) a b k c ∧ WaysOk (since t r) a b c WS ∧ Side n (since t r) a b k c sd := by
  have hl := hg.len
  obtain ⟨c, WS, sd, h1, h2⟩ := told_of_ok (ts := since t r) (hg.filter _) hk n10 ha hb hab
  refine ⟨c, WS, sd, fnN_rt ?_, h2⟩
  show g_hang_of [.int n, .list (r.map enc3), .int a, .int b, .int k, .int t] = _
  unfold g_hang_of
  have e1 : gDrop (gCallN 3 f_look_at_pair (gCons (gVar 0) (gCons (gVar 2) (gCons (gVar 3) (gNil))))) [.int n, .list (r.map enc3), .int a, .int b, .int k, .int t] = .ok (.nx [.int n, .list (r.map enc3), .int a, .int b, .int k, .int t]) := by
    have e0 : gCallN 3 f_look_at_pair (gCons (gVar 0) (gCons (gVar 2) (gCons (gVar 3) (gNil)))) [.int n, .list (r.map enc3), .int a, .int b, .int k, .int t] = .ok .none := callN_ok (ds := [.int n, .int a, .int b]) rfl rfl (pair_ok ha hb hab)
    unfold gDrop
    rw [e0]
    rfl
  refine seq_step e1 ?_
  have e2 : gCallN 2 f_since (gCons (gVar 1) (gCons (gVar 5) (gNil))) [.int n, .list (r.map enc3), .int a, .int b, .int k, .int t] = .ok (.list ((since t r).map enc3)) := callN_ok (ds := [.list (r.map enc3), .int t]) rfl rfl (since_ok r t (by omega))
  refine ret_ok (callN_ok (ds := [.int n, .list ((since t r).map enc3), .int a, .int b, .int k]) ?_ rfl h1)
  rw [gCons_def, gCons_def, e2]
  rfl
theorem since_0 {n : Int} {r : List T3} (hg : Good n r) : since 0 r = r := List.filter_eq_self.mpr fun t ht => decide_eq_true (hg.ok t ht).1.1
/-- with the moment left out -/
theorem hang0_ok {r : List T3} {n a b : Int} {k : Nat} (hg : Good n r) (hk : k < 900) (n10 : n ≤ 10) (ha : 0 ≤ a ∧ a < n) (hb : 0 ≤ b ∧ b < n) (hab : a ≠ b) :
    ∃ (c : Nat) (WS : List (List Int)) (sd : Dt), f_hang_of ([.int n, .list (r.map enc3), .int a, .int b, .int k] ++ [.int 0]) = .ok (.tuple [.int c, .list (WS.map encW), sd]) ∧ Hng r a b k c ∧ WaysOk r a b c WS ∧ Side n r a b k c sd := by
  have := hang_of_ok (t := 0) hg hk n10 ha hb hab
  rwa [since_0 hg] at this
end K40
end T_K40B

section T_K40C
set_option linter.all false
set_option maxRecDepth 100000
set_option maxHeartbeats 4000000
/-! K40C: pared. -/
namespace K40
open PySem Sim FamA FamL Flow FlowL Lay

theorem gLc_ex {α : Type} (enc : α → Dt) (p : α → Bool) {gi : List Dt → O (List Dt)} {h : Dt → List Dt → O (List Dt)} {gt : List Dt → O Bool} {ge : Gd} {ρ : List Dt} {xs : List α} (h1 : gi ρ = .ok (xs.map enc)) (h2 : xs.length ≤ 100000)
    (H : ∀ x ∈ xs, ∃ ρ', h (enc x) ρ = .ok ρ' ∧ gt ρ' = .ok (p x) ∧ (p x = true → ∃ d, ge ρ' = .ok d)) : ∃ ds, gLc gi h gt ge ρ = .ok (.list ds) := by
  have key : ∀ x : α, ∃ d : Dt, x ∈ xs → ∃ ρ', h (enc x) ρ = .ok ρ' ∧ gt ρ' = .ok (p x) ∧ (p x = true → ge ρ' = .ok d) := fun x => by
    by_cases hx : x ∈ xs
    · obtain ⟨ρ', e1, e2, e3⟩ := H x hx
      by_cases c : p x = true
      · obtain ⟨d, e⟩ := e3 c
        exact ⟨d, fun _ => ⟨ρ', e1, e2, fun _ => e⟩⟩
      · exact ⟨.none, fun _ => ⟨ρ', e1, e2, fun z => absurd z c⟩⟩
    · exact ⟨.none, fun z => absurd z hx⟩
  obtain ⟨q, hq⟩ := Classical.axiomOfChoice key
  exact ⟨_, gLc_map enc p q h1 h2 hq⟩
theorem others_ok (r : List T3) (t : T3) (hl : r.length ≤ 1000) : f_others_of [.list (r.map enc3), enc3 t] = .ok (.list ((oth r t).map enc3)) := by
  refine fnL_rt ?_
  show g_others_of [.list (r.map enc3), enc3 t, .none] = _
  unfold g_others_of
  have h := gLc_map enc3 (fun s => !(s.1 == t.1)) enc3 (gi := gSeq (gVar 0)) (h := tgN 2) (gt := gTest (gOp hNe (gOp hIx (gVar 2) (gC (.int (0)))) (gOp hIx (gVar 1) (gC (.int (0)))))) (ge := gVar 2)
    (ρ := [.list (r.map enc3), enc3 t, .none]) (xs := r) rfl (by omega) (fun s _ => ⟨_, rfl, by simp only [bnd_ok, gVar_def, gC_def, gOp_def, gUn_def, gNil_def, gCons_def, gIf_def, gTest_def, gNot_def, gAnd_def, gOr_def, gAndV_def, gOrV_def, gNotV_def, gCB_def, asB_b, hAdd_i, hSub_i, hLt_i, hLe_i, hGt_i, hGe_i, hMul_r, hMul_l, hMod_i, hDiv_s, hBand_i, hShr_i, hPow_10_18, hPow_10_27, hPow_10_28, hPow_10_29, hPow_10_30, hEq_i, hNe_i, hLen_l, hLen_t, hMin2_i, hMax2_i, hMin3_i, hInt1_b, hInt1_i, hBits_i, hListOf_l, hListOf_t, hTupOf_l, hTupOf_t, gSeqS_def, gSet_def, gRet_def, gIfS_def, gNext_def, gTup_def, gLst_def, List.getElem?_cons_zero, List.getElem?_cons_succ, List.set_cons_zero, List.set_cons_succ, List.length_cons, List.length_nil, Nat.zero_add, Nat.reduceAdd, Nat.reduceLeDiff, Nat.reduceSub, Nat.reduceMul, if_true, if_false, Bool.false_eq_true, List.replicate_succ, List.replicate_zero, List.cons_append, List.nil_append, tgN, tgT, tgCons, tgNil, Int.reducePow, Int.reduceAdd, Int.reduceSub, Int.reduceMul, decide_true, decide_false, Bool.not_true, Bool.not_false, gChain_def, hIsa_int, hIsa_intb, hIsa_list, hIsa_tuple, gDrop_def, ix3_0], fun _ => rfl⟩)
  refine ret_ok ?_
  rw [gPurN_def, h, bnd_ok]
  exact if_pos (pure3 _)
theorem hEq_nat (a b : Nat) : hEq (.int a) (.int b) = .ok (.bool (decide (a = b))) := by
  rw [hEq_i]
  by_cases c : a = b
  · subst c; simp
  · have : ¬ (a : Int) = b := by omega
    simp [c, this]
theorem turn_ok {n : Int} {k : Nat} {r K : List T3} {t : T3} {x5 : Dt} (hg : Good n r) (hs : K.Sublist r) (ht : t ∈ r) (hk : k < 900) (n10 : n ≤ 10) :
    ∃ K' y5, g_pared_ties_L1 [.int n, .list (r.map enc3), .int k, .list (K.map enc3), enc3 t, x5] = .ok (.nx [.int n, .list (r.map enc3), .int k, .list (K'.map enc3), enc3 t, y5]) ∧
      ((K' = oth K t ∧ (t.2.1 = t.2.2 ∨ Strong (oth K t) t.2.1 t.2.2 k)) ∨ (K' = K ∧ Need k K t)) := by
  have hK := hg.sub hs
  have hl := hK.len
  have hr := hg.inN t ht
  have e1 : gSet 5 (gCallN 2 f_others_of (gCons (gVar 3) (gCons (gVar 4) (gNil)))) [.int n, .list (r.map enc3), .int k, .list (K.map enc3), enc3 t, x5] = .ok (.nx [.int n, .list (r.map enc3), .int k, .list (K.map enc3), enc3 t, .list ((oth K t).map enc3)]) :=
    set_ok (callN_ok (ds := [.list (K.map enc3), enc3 t]) rfl rfl (others_ok K t (by omega)))
  have t1 : gTest (gOp hEq (gOp hIx (gVar 4) (gC (.int (1)))) (gOp hIx (gVar 4) (gC (.int (2))))) [.int n, .list (r.map enc3), .int k, .list (K.map enc3), enc3 t, .list ((oth K t).map enc3)] = .ok (t.2.1 == t.2.2) := by
    simp only [bnd_ok, gVar_def, gC_def, gOp_def, gUn_def, gNil_def, gCons_def, gIf_def, gTest_def, gNot_def, gAnd_def, gOr_def, gAndV_def, gOrV_def, gNotV_def, gCB_def, asB_b, hAdd_i, hSub_i, hLt_i, hLe_i, hGt_i, hGe_i, hMul_r, hMul_l, hMod_i, hDiv_s, hBand_i, hShr_i, hPow_10_18, hPow_10_27, hPow_10_28, hPow_10_29, hPow_10_30, hEq_i, hNe_i, hLen_l, hLen_t, hMin2_i, hMax2_i, hMin3_i, hInt1_b, hInt1_i, hBits_i, hListOf_l, hListOf_t, hTupOf_l, hTupOf_t, gSeqS_def, gSet_def, gRet_def, gIfS_def, gNext_def, gTup_def, gLst_def, List.getElem?_cons_zero, List.getElem?_cons_succ, List.set_cons_zero, List.set_cons_succ, List.length_cons, List.length_nil, Nat.zero_add, Nat.reduceAdd, Nat.reduceLeDiff, Nat.reduceSub, Nat.reduceMul, if_true, if_false, Bool.false_eq_true, List.replicate_succ, List.replicate_zero, List.cons_append, List.nil_append, tgN, tgT, tgCons, tgNil, Int.reducePow, Int.reduceAdd, Int.reduceSub, Int.reduceMul, decide_true, decide_false, Bool.not_true, Bool.not_false, gChain_def, hIsa_int, hIsa_intb, hIsa_list, hIsa_tuple, gDrop_def, ix3_1, ix3_2]
  unfold g_pared_ties_L1
  by_cases c : t.2.1 = t.2.2
  · refine ⟨oth K t, _, seq_step e1 ((if_t ?_).trans (set_ok rfl)), .inl ⟨rfl, .inl c⟩⟩
    rw [gOr_def, t1, c]
    simp
  · obtain ⟨d, WS, sd, h1, h2, _, _⟩ := hang0_ok (k := k) (hK.sub (oth_sub K t)) hk n10 hr.1 hr.2 c
    have t2 : gTest (gOp hEq (gOp hIx (gCallDf 6 f_hang_of [.int (0)] (gCons (gVar 0) (gCons (gVar 5) (gCons (gOp hIx (gVar 4) (gC (.int (1)))) (gCons (gOp hIx (gVar 4) (gC (.int (2)))) (gCons (gVar 2) (gNil))))))) (gC (.int (0)))) (gVar 2)) [.int n, .list (r.map enc3), .int k, .list (K.map enc3), enc3 t, .list ((oth K t).map enc3)] = .ok (decide (d = k)) := by
      have e2 : gCallDf 6 f_hang_of [.int (0)] (gCons (gVar 0) (gCons (gVar 5) (gCons (gOp hIx (gVar 4) (gC (.int (1)))) (gCons (gOp hIx (gVar 4) (gC (.int (2)))) (gCons (gVar 2) (gNil)))))) [.int n, .list (r.map enc3), .int k, .list (K.map enc3), enc3 t, .list ((oth K t).map enc3)] = .ok (.tuple [.int d, .list (WS.map encW), sd]) :=
        callDf_ok (ds := [.int n, .list ((oth K t).map enc3), .int t.2.1, .int t.2.2, .int k]) rfl rfl h1
      have e3 : hIx (.tuple [.int d, .list (WS.map encW), sd]) (.int 0) = .ok (.int d) := rfl
      rw [gTest_def, gOp_def, gOp_def, e2, bnd_ok, gC_def, bnd_ok, e3, bnd_ok, gVar_def]
      simp only [List.getElem?_cons_zero, List.getElem?_cons_succ, bnd_ok, hEq_nat, asB_b]
    by_cases ck : d = k
    · refine ⟨oth K t, _, seq_step e1 ((if_t ?_).trans (set_ok rfl)), .inl ⟨rfl, .inr ((hng_iff h2).mp ck)⟩⟩
      rw [gOr_def, t1, t2]
      simp [c, ck]
    · refine ⟨K, _, seq_step e1 ((if_f ?_).trans rfl), .inr ⟨rfl, c, fun z => ck ((hng_iff h2).mpr z)⟩⟩
      rw [gOr_def, t1, t2]
      simp [c, ck]
theorem pared_ties_ok {n : Int} {k : Nat} {r : List T3} (hg : Good n r) (hk : k < 900) (n10 : n ≤ 10) :
    ∃ K, f_pared_ties [.int n, .list (r.map enc3), .int k] = .ok (.list (K.map enc3)) ∧ Par k r K ∧ (∀ t ∈ K, Need k K t) ∧ ((∀ t ∈ r, Need k r t) → K = r) := by
  have hl := hg.len
  obtain ⟨ρ', hf, K, x4, x5, rfl, hP, hN, hI⟩ := forE_ix enc3 (h := tgN 4) (b := g_pared_ties_L1) r
    (fun i ρ => ∃ K x4 x5, ρ = [.int n, .list (r.map enc3), .int k, .list (K.map enc3), x4, x5] ∧ Par k r K ∧ (∀ j (hj : j < r.length), j < i → r[j] ∈ K → Need k K r[j]) ∧ ((∀ t ∈ r, Need k r t) → K = r))
    (ρ := [.int n, .list (r.map enc3), .int k, .list (r.map enc3), .none, .none]) ⟨r, .none, .none, rfl, par_refl k r, fun j _ h => by omega, fun _ => rfl⟩ (by
      rintro i ρ hi ⟨K, x4, x5, rfl, hP, hN, hI⟩
      obtain ⟨K', y5, h1, h2⟩ := turn_ok (x5 := x5) hg hP.sub (List.getElem_mem hi) hk n10
      refine ⟨_, _, rfl, .inl h1, K', enc3 r[i], y5, rfl, ?_⟩
      rcases h2 with ⟨rfl, h2⟩ | ⟨rfl, h2⟩
      · refine ⟨par_oth hg.dst (List.getElem_mem hi) hP h2, fun j hj hji hm => ?_, fun hall => ?_⟩
        · by_cases z : j = i
          · subst z
            have := (List.mem_filter.mp hm).2
            simp at this
          · exact (hN j hj (by omega) ((oth_sub K _).subset hm)).mono (oth_sub K _)
        · have e := hI hall
          subst e
          have := hall _ (List.getElem_mem hi)
          rcases h2 with z | z
          · exact absurd z this.1
          · exact absurd z this.2
      · refine ⟨hP, fun j hj hji hm => ?_, hI⟩
        by_cases z : j = i
        · subst z; exact h2
        · exact hN j hj (by omega) hm)
  refine ⟨K, fnN_rt ?_, hP, fun t ht => ?_, hI⟩
  · show g_pared_ties [.int n, .list (r.map enc3), .int k, .none, .none, .none] = _
    unfold g_pared_ties
    refine seq_step (set_ok (d := .list (r.map enc3)) ?_) ?_
    · rw [gPurN_def, gCB_def, gCons_def, gVar_def]
      simp only [List.getElem?_cons_zero, List.getElem?_cons_succ, bnd_ok, gNil_def, hListOf_l]
      exact if_pos (pure3 _)
    · refine seq_step (for_ok (ds := r.map enc3) rfl hf) ?_
      exact ret_ok rfl
  · obtain ⟨j, hj, e⟩ := List.getElem_of_mem (hP.sub.subset ht)
    rw [← e]
    exact hN j hj hj (by rw [e]; exact ht)
theorem ways_for_ok {n : Int} {k : Nat} {r : List T3} {t : T3} (hg : Good n r) (hr : (0 ≤ t.2.1 ∧ t.2.1 < n) ∧ 0 ≤ t.2.2 ∧ t.2.2 < n) (hk : k < 900) (n10 : n ≤ 10) : ∃ d, f_ways_for [.int n, .list (r.map enc3), enc3 t, .int k] = .ok d := by
  by_cases c : t.2.1 = t.2.2
  · obtain ⟨ds, h⟩ := gLc_ex (fun (i : Nat) => PyData.int (i : Int)) (fun _ => true) (gi := gRng1 (gCons (gVar 3) gNil)) (h := tgN 4) (gt := gYes) (ge := gLst gNil) (ρ := [.int n, .list (r.map enc3), enc3 t, .int k, .none]) (xs := List.range k)
      ((rng1_ok (j := (k : Nat)) rfl (by omega) (by omega)).trans (by rw [rangeD_nat])) (by rw [List.length_range]; omega) (fun x _ => ⟨_, rfl, rfl, fun _ => ⟨_, rfl⟩⟩)
    refine ⟨.list ds, fnN_rt ?_⟩
    show g_ways_for [.int n, .list (r.map enc3), enc3 t, .int k, .none] = _
    unfold g_ways_for
    exact seq_rt ((if_t (by simp only [bnd_ok, gVar_def, gC_def, gOp_def, gUn_def, gNil_def, gCons_def, gIf_def, gTest_def, gNot_def, gAnd_def, gOr_def, gAndV_def, gOrV_def, gNotV_def, gCB_def, asB_b, hAdd_i, hSub_i, hLt_i, hLe_i, hGt_i, hGe_i, hMul_r, hMul_l, hMod_i, hDiv_s, hBand_i, hShr_i, hPow_10_18, hPow_10_27, hPow_10_28, hPow_10_29, hPow_10_30, hEq_i, hNe_i, hLen_l, hLen_t, hMin2_i, hMax2_i, hMin3_i, hInt1_b, hInt1_i, hBits_i, hListOf_l, hListOf_t, hTupOf_l, hTupOf_t, gSeqS_def, gSet_def, gRet_def, gIfS_def, gNext_def, gTup_def, gLst_def, List.getElem?_cons_zero, List.getElem?_cons_succ, List.set_cons_zero, List.set_cons_succ, List.length_cons, List.length_nil, Nat.zero_add, Nat.reduceAdd, Nat.reduceLeDiff, Nat.reduceSub, Nat.reduceMul, if_true, if_false, Bool.false_eq_true, List.replicate_succ, List.replicate_zero, List.cons_append, List.nil_append, tgN, tgT, tgCons, tgNil, Int.reducePow, Int.reduceAdd, Int.reduceSub, Int.reduceMul, decide_true, decide_false, Bool.not_true, Bool.not_false, gChain_def, hIsa_int, hIsa_intb, hIsa_list, hIsa_tuple, gDrop_def, ix3_1, ix3_2]; simp [c])).trans (ret_ok h))
  · obtain ⟨d, WS, sd, h1, _⟩ := hang0_ok (k := k) hg hk n10 hr.1 hr.2 c
    refine ⟨.list (WS.map encW), fnN_rt ?_⟩
    show g_ways_for [.int n, .list (r.map enc3), enc3 t, .int k, .none] = _
    unfold g_ways_for
    refine seq_step ((if_f (by simp only [bnd_ok, gVar_def, gC_def, gOp_def, gUn_def, gNil_def, gCons_def, gIf_def, gTest_def, gNot_def, gAnd_def, gOr_def, gAndV_def, gOrV_def, gNotV_def, gCB_def, asB_b, hAdd_i, hSub_i, hLt_i, hLe_i, hGt_i, hGe_i, hMul_r, hMul_l, hMod_i, hDiv_s, hBand_i, hShr_i, hPow_10_18, hPow_10_27, hPow_10_28, hPow_10_29, hPow_10_30, hEq_i, hNe_i, hLen_l, hLen_t, hMin2_i, hMax2_i, hMin3_i, hInt1_b, hInt1_i, hBits_i, hListOf_l, hListOf_t, hTupOf_l, hTupOf_t, gSeqS_def, gSet_def, gRet_def, gIfS_def, gNext_def, gTup_def, gLst_def, List.getElem?_cons_zero, List.getElem?_cons_succ, List.set_cons_zero, List.set_cons_succ, List.length_cons, List.length_nil, Nat.zero_add, Nat.reduceAdd, Nat.reduceLeDiff, Nat.reduceSub, Nat.reduceMul, if_true, if_false, Bool.false_eq_true, List.replicate_succ, List.replicate_zero, List.cons_append, List.nil_append, tgN, tgT, tgCons, tgNil, Int.reducePow, Int.reduceAdd, Int.reduceSub, Int.reduceMul, decide_true, decide_false, Bool.not_true, Bool.not_false, gChain_def, hIsa_int, hIsa_intb, hIsa_list, hIsa_tuple, gDrop_def, ix3_1, ix3_2]; simp [c])).trans rfl) (ret_ok ?_)
    have e2 : gCallDf 6 f_hang_of [.int (0)] (gCons (gVar 0) (gCons (gVar 1) (gCons (gOp hIx (gVar 2) (gC (.int (1)))) (gCons (gOp hIx (gVar 2) (gC (.int (2)))) (gCons (gVar 3) (gNil)))))) [.int n, .list (r.map enc3), enc3 t, .int k, .none] = .ok (.tuple [.int d, .list (WS.map encW), sd]) :=
      callDf_ok (ds := [.int n, .list (r.map enc3), .int t.2.1, .int t.2.2, .int k]) rfl rfl h1
    rw [gOp_def, e2]
    rfl
theorem side_for_ok {n : Int} {k : Nat} {r : List T3} {t : T3} (hg : Good n r) (hr : (0 ≤ t.2.1 ∧ t.2.1 < n) ∧ 0 ≤ t.2.2 ∧ t.2.2 < n) (c : t.2.1 ≠ t.2.2) (hk : k < 900) (n10 : n ≤ 10) : ∃ d, f_side_for [.int n, .list (r.map enc3), enc3 t, .int k] = .ok d := by
  have hl := hg.len
  obtain ⟨d, WS, sd, h1, _⟩ := hang0_ok (k := k) (hg.sub (oth_sub r t)) hk n10 hr.1 hr.2 c
  refine ⟨sd, fnN_rt ?_⟩
  show g_side_for [.int n, .list (r.map enc3), enc3 t, .int k] = _
  unfold g_side_for
  refine ret_ok ?_
  have e1 : gCallN 2 f_others_of (gCons (gVar 1) (gCons (gVar 2) (gNil))) [.int n, .list (r.map enc3), enc3 t, .int k] = .ok (.list ((oth r t).map enc3)) := callN_ok (ds := [.list (r.map enc3), enc3 t]) rfl rfl (others_ok r t (by omega))
  have e2 : gCallDf 6 f_hang_of [.int (0)] (gCons (gVar 0) (gCons (gCallN 2 f_others_of (gCons (gVar 1) (gCons (gVar 2) (gNil)))) (gCons (gOp hIx (gVar 2) (gC (.int (1)))) (gCons (gOp hIx (gVar 2) (gC (.int (2)))) (gCons (gVar 3) (gNil)))))) [.int n, .list (r.map enc3), enc3 t, .int k] = .ok (.tuple [.int d, .list (WS.map encW), sd]) := by
    refine callDf_ok (ds := [.int n, .list ((oth r t).map enc3), .int t.2.1, .int t.2.2, .int k]) ?_ rfl h1
    rw [gCons_def, gCons_def, e1]
    rfl
  rw [gOp_def, e2]
  rfl
def msD (r : List T3) : Dt := .list ((r.map fun u : T3 => u.1).map .int)
theorem pared_ok {n : Int} {k : Nat} {r : List T3} (hg : Good n r) (n1 : 1 ≤ n) (n10 : n ≤ 10) (k1 : 1 ≤ k) (k6 : k ≤ 6) :
    ∃ K d1 d2, f_pared [.int n, .list (r.map enc3), .int k] = .ok (.tuple [msD K, d1, d2]) ∧ Par k r K ∧ (∀ t ∈ K, Need k K t) ∧ ((∀ t ∈ r, Need k r t) → K = r) := by
  have hl := hg.len
  obtain ⟨K, p1, hP, hN, hI⟩ := pared_ties_ok (k := k) hg (by omega) n10
  have hK := hg.sub hP.sub
  have hKl := hK.len
  have lay := layered_ok (n := n) (k := k) (r := []) (fun t ht => nomatch ht) (by simp) n1 n10 k1 k6
  have hm := gLc_map enc3 (fun _ => true) (fun t => PyData.int t.1) (gi := gSeq (gVar 3)) (h := tgN 5) (gt := gYes) (ge := gOp hIx (gVar 5) (gC (.int (0)))) (ρ := [.int n, .list (r.map enc3), .int k, .list (K.map enc3), .none, .none, .none]) (xs := K) rfl (by omega) (fun t _ => ⟨_, rfl, rfl, fun _ => rfl⟩)
  rw [List.filter_eq_self.mpr (fun _ _ => rfl), map1] at hm
  obtain ⟨d1, hw⟩ := gLc_ex enc3 (fun t => !decide (t.1 ∈ K.map fun u : T3 => u.1)) (gi := gSeq (gVar 1)) (h := tgN 5) (gt := gTest (gOp hNotIn (gOp hIx (gVar 5) (gC (.int (0)))) (gVar 4))) (ge := gCallN 4 f_ways_for (gCons (gVar 0) (gCons (gVar 3) (gCons (gVar 5) (gCons (gVar 2) (gNil))))))
    (ρ := [.int n, .list (r.map enc3), .int k, .list (K.map enc3), msD K, .none, .none]) (xs := r) rfl (by omega) (fun t ht => by
      obtain ⟨d, e⟩ := ways_for_ok (k := k) hK (hg.inN t ht) (by omega) n10
      refine ⟨[.int n, .list (r.map enc3), .int k, .list (K.map enc3), msD K, enc3 t, .none], rfl, ?_, fun _ => ⟨d, callN_ok (ds := [.int n, .list (K.map enc3), enc3 t, .int k]) rfl rfl e⟩⟩
      unfold msD
      simp only [bnd_ok, gVar_def, gC_def, gOp_def, gUn_def, gNil_def, gCons_def, gIf_def, gTest_def, gNot_def, gAnd_def, gOr_def, gAndV_def, gOrV_def, gNotV_def, gCB_def, asB_b, hAdd_i, hSub_i, hLt_i, hLe_i, hGt_i, hGe_i, hMul_r, hMul_l, hMod_i, hDiv_s, hBand_i, hShr_i, hPow_10_18, hPow_10_27, hPow_10_28, hPow_10_29, hPow_10_30, hEq_i, hNe_i, hLen_l, hLen_t, hMin2_i, hMax2_i, hMin3_i, hInt1_b, hInt1_i, hBits_i, hListOf_l, hListOf_t, hTupOf_l, hTupOf_t, gSeqS_def, gSet_def, gRet_def, gIfS_def, gNext_def, gTup_def, gLst_def, List.getElem?_cons_zero, List.getElem?_cons_succ, List.set_cons_zero, List.set_cons_succ, List.length_cons, List.length_nil, Nat.zero_add, Nat.reduceAdd, Nat.reduceLeDiff, Nat.reduceSub, Nat.reduceMul, if_true, if_false, Bool.false_eq_true, List.replicate_succ, List.replicate_zero, List.cons_append, List.nil_append, tgN, tgT, tgCons, tgNil, Int.reducePow, Int.reduceAdd, Int.reduceSub, Int.reduceMul, decide_true, decide_false, Bool.not_true, Bool.not_false, gChain_def, hIsa_int, hIsa_intb, hIsa_list, hIsa_tuple, gDrop_def, ix3_0, hNotIn_ints])
  obtain ⟨d2, hs⟩ := gLc_ex enc3 (fun _ => true) (gi := gSeq (gVar 3)) (h := tgN 5) (gt := gYes) (ge := gCallN 4 f_side_for (gCons (gVar 0) (gCons (gVar 3) (gCons (gVar 5) (gCons (gVar 2) (gNil))))))
    (ρ := [.int n, .list (r.map enc3), .int k, .list (K.map enc3), msD K, .none, .list d1]) (xs := K) rfl (by omega) (fun t ht => by
      obtain ⟨d, e⟩ := side_for_ok (k := k) hK (hK.inN t ht) (hN t ht).1 (by omega) n10
      exact ⟨[.int n, .list (r.map enc3), .int k, .list (K.map enc3), msD K, enc3 t, .list d1], rfl, rfl, fun _ => ⟨d, callN_ok (ds := [.int n, .list (K.map enc3), enc3 t, .int k]) rfl rfl e⟩⟩)
  refine ⟨K, .list d1, .list d2, fnN_rt ?_, hP, hN, hI⟩
  show g_pared [.int n, .list (r.map enc3), .int k, .none, .none, .none, .none] = _
  unfold g_pared
  have l1 : gDrop (gCallN 3 f_layered (gCons (gVar 0) (gCons (gLst (gNil)) (gCons (gVar 2) (gNil))))) [.int n, .list (r.map enc3), .int k, .none, .none, .none, .none] = .ok (.nx [.int n, .list (r.map enc3), .int k, .none, .none, .none, .none]) := by
    have e0 : gCallN 3 f_layered (gCons (gVar 0) (gCons (gLst (gNil)) (gCons (gVar 2) (gNil)))) [.int n, .list (r.map enc3), .int k, .none, .none, .none, .none] = _ := callN_ok (ds := [.int n, .list (([] : List T3).map enc3), .int k]) rfl rfl lay
    unfold gDrop
    rw [e0]
    rfl
  refine seq_step l1 ?_
  refine seq_step (set_ok (callN_ok (ds := [.int n, .list (r.map enc3), .int k]) rfl rfl p1)) ?_
  dsimp only [List.set]
  refine seq_step (set_ok hm) ?_
  dsimp only [List.set]
  refine seq_step (set_ok hw) ?_
  dsimp only [List.set]
  refine ret_ok ?_
  have hs' : gLc (gSeq (gVar 3)) (tgN 5) (gYes) (gCallN 4 f_side_for (gCons (gVar 0) (gCons (gVar 3) (gCons (gVar 5) (gCons (gVar 2) (gNil)))))) [.int n, .list (r.map enc3), .int k, .list (K.map enc3), .list ((K.map fun u : T3 => u.1).map .int), .none, .list d1] = .ok (.list d2) := hs
  rw [gTup_def, gCons_def, gCons_def, gCons_def, hs']
  rfl
end K40
end T_K40C

section T_K40Q
set_option linter.all false
set_option maxRecDepth 100000
set_option maxHeartbeats 4000000
/-! K40Q: the law. -/
namespace K40
open PySem Sim FamA FamL Flow FlowL Lay

def mn (k m : Nat) : Nat := if m < k then m else k
theorem par_not_less {k : Nat} {r K : List T3} (h : Par k r K) (S : Int → Bool) : ¬ rimN K S < mn k (rimN r S) := by
  unfold mn
  rcases h.rim S with e | e
  · rw [e]; split <;> omega
  · split <;> omega
theorem par_tight {k : Nat} {r K : List T3} (h : Par k r K) {S : Int → Bool} (hs : rimN K S ≤ k) : rimN K S = mn k (rimN r S) := by
  have := rimN_sub h.sub S
  unfold mn
  rcases h.rim S with e | e
  · rw [e]; split <;> omega
  · split <;> omega
def lwS (sc pool d3 msd d8 : Dt) (n : Int) (k : Nat) (r K : List T3) (N : List Int) (d10 d11 d12 d13 : Dt) : List Dt := [sc, pool, .int n, d3, .int k, .list (r.map enc3), msd, .list (K.map enc3), d8, .list (N.map .int), d10, d11, d12, d13]
theorem side_turn {sc pool d3 msd d8 d11 d12 d13 : Dt} {n : Int} {k : Nat} {r K : List T3} {N : List Int} (hr : r.length ≤ 60) (hP : Par k r K) (hN : N.length ≤ 90000) (s : List Int) :
    ∃ N' y11 y12, g_law_L1 (lwS sc pool d3 msd d8 n k r K N (encL s) d11 d12 d13) = .ok (.nx (lwS sc pool d3 msd d8 n k r K N' (encL s) y11 y12 d13)) ∧ N'.length ≤ N.length + 60 ∧ (∀ m ∈ N, m ∈ N') ∧ (rimN K (sideB s) ≤ k → ∀ m ∈ rimM K s, m ∈ N') := by
  have hKl : K.length ≤ 60 := Nat.le_trans hP.sub.length_le hr
  have h1 := lrim_ok K s (by omega)
  have h2 := lrim_ok r s (by omega)
  have l1 := rimM_len K s
  have l2 := rimM_len r s
  have hle : rimN K (sideB s) ≤ 60 := Nat.le_trans (rimN_le _ _) hKl
  have e1 : gSet 11 (gCallN 2 f_l_rim (gCons (gVar 7) (gCons (gVar 10) (gNil)))) (lwS sc pool d3 msd d8 n k r K N (encL s) d11 d12 d13) = .ok (.nx (lwS sc pool d3 msd d8 n k r K N (encL s) (.list ((rimM K s).map .int)) d12 d13)) := set_ok (callN_ok (ds := [.list (K.map enc3), encL s]) rfl rfl h1)
  have e2 : gSet 12 (gCB hLen (gCons (gCallN 2 f_l_rim (gCons (gVar 5) (gCons (gVar 10) (gNil)))) (gNil))) (lwS sc pool d3 msd d8 n k r K N (encL s) (.list ((rimM K s).map .int)) d12 d13) = .ok (.nx (lwS sc pool d3 msd d8 n k r K N (encL s) (.list ((rimM K s).map .int)) (.int (rimN r (sideB s))) d13)) := by
    refine set_ok (d := .int (rimN r (sideB s))) ?_
    have c : gCallN 2 f_l_rim (gCons (gVar 5) (gCons (gVar 10) (gNil))) (lwS sc pool d3 msd d8 n k r K N (encL s) (.list ((rimM K s).map .int)) d12 d13) = .ok (.list ((rimM r s).map .int)) := callN_ok (ds := [.list (r.map enc3), encL s]) rfl rfl h2
    rw [gCB_def, gCons_def, c, bnd_ok, gNil_def, bnd_ok, bnd_ok, hLen_l, List.length_map, l2]
  have m1 : gCB hMin2 (gCons (gVar 4) (gCons (gVar 12) (gNil))) (lwS sc pool d3 msd d8 n k r K N (encL s) (.list ((rimM K s).map .int)) (.int (rimN r (sideB s))) d13) = .ok (.int (mn k (rimN r (sideB s)))) := by
    simp only [bnd_ok, gVar_def, gC_def, gOp_def, gUn_def, gNil_def, gCons_def, gIf_def, gTest_def, gNot_def, gAnd_def, gOr_def, gAndV_def, gOrV_def, gNotV_def, gCB_def, asB_b, hAdd_i, hSub_i, hLt_i, hLe_i, hGt_i, hGe_i, hMul_r, hMul_l, hMod_i, hDiv_s, hBand_i, hShr_i, hPow_10_18, hPow_10_27, hPow_10_28, hPow_10_29, hPow_10_30, hEq_i, hNe_i, hLen_l, hLen_t, hMin2_i, hMax2_i, hMin3_i, hInt1_b, hInt1_i, hBits_i, hListOf_l, hListOf_t, hTupOf_l, hTupOf_t, gSeqS_def, gSet_def, gRet_def, gIfS_def, gNext_def, gTup_def, gLst_def, List.getElem?_cons_zero, List.getElem?_cons_succ, List.set_cons_zero, List.set_cons_succ, List.length_cons, List.length_nil, Nat.zero_add, Nat.reduceAdd, Nat.reduceLeDiff, Nat.reduceSub, Nat.reduceMul, if_true, if_false, Bool.false_eq_true, List.replicate_succ, List.replicate_zero, List.cons_append, List.nil_append, tgN, tgT, tgCons, tgNil, Int.reducePow, Int.reduceAdd, Int.reduceSub, Int.reduceMul, decide_true, decide_false, Bool.not_true, Bool.not_false, gChain_def, hIsa_int, hIsa_intb, hIsa_list, hIsa_tuple, gDrop_def, lwS]
    unfold mn
    split <;> split <;> first | rfl | omega
  have m2 : gCB hLen (gCons (gVar 11) (gNil)) (lwS sc pool d3 msd d8 n k r K N (encL s) (.list ((rimM K s).map .int)) (.int (rimN r (sideB s))) d13) = .ok (.int (rimN K (sideB s))) := by
    simp only [bnd_ok, gVar_def, gC_def, gOp_def, gUn_def, gNil_def, gCons_def, gIf_def, gTest_def, gNot_def, gAnd_def, gOr_def, gAndV_def, gOrV_def, gNotV_def, gCB_def, asB_b, hAdd_i, hSub_i, hLt_i, hLe_i, hGt_i, hGe_i, hMul_r, hMul_l, hMod_i, hDiv_s, hBand_i, hShr_i, hPow_10_18, hPow_10_27, hPow_10_28, hPow_10_29, hPow_10_30, hEq_i, hNe_i, hLen_l, hLen_t, hMin2_i, hMax2_i, hMin3_i, hInt1_b, hInt1_i, hBits_i, hListOf_l, hListOf_t, hTupOf_l, hTupOf_t, gSeqS_def, gSet_def, gRet_def, gIfS_def, gNext_def, gTup_def, gLst_def, List.getElem?_cons_zero, List.getElem?_cons_succ, List.set_cons_zero, List.set_cons_succ, List.length_cons, List.length_nil, Nat.zero_add, Nat.reduceAdd, Nat.reduceLeDiff, Nat.reduceSub, Nat.reduceMul, if_true, if_false, Bool.false_eq_true, List.replicate_succ, List.replicate_zero, List.cons_append, List.nil_append, tgN, tgT, tgCons, tgNil, Int.reducePow, Int.reduceAdd, Int.reduceSub, Int.reduceMul, decide_true, decide_false, Bool.not_true, Bool.not_false, gChain_def, hIsa_int, hIsa_intb, hIsa_list, hIsa_tuple, gDrop_def, lwS, List.length_map, l1]
  have t1 : gTest (gOp hLt (gCB hLen (gCons (gVar 11) (gNil))) (gCB hMin2 (gCons (gVar 4) (gCons (gVar 12) (gNil))))) (lwS sc pool d3 msd d8 n k r K N (encL s) (.list ((rimM K s).map .int)) (.int (rimN r (sideB s))) d13) = .ok false := by
    have := par_not_less hP (sideB s)
    rw [gTest_def, gOp_def, m2, bnd_ok, m1, bnd_ok, hLt_i, bnd_ok, asB_b, decide_eq_false (by omega)]
  have t2 : gTest (gOp hEq (gCB hLen (gCons (gVar 11) (gNil))) (gCB hMin2 (gCons (gVar 4) (gCons (gVar 12) (gNil))))) (lwS sc pool d3 msd d8 n k r K N (encL s) (.list ((rimM K s).map .int)) (.int (rimN r (sideB s))) d13) = .ok (decide (rimN K (sideB s) = mn k (rimN r (sideB s)))) := by
    rw [gTest_def, gOp_def, m2, bnd_ok, m1, bnd_ok, hEq_nat, bnd_ok, asB_b]
  unfold g_law_L1
  by_cases c : rimN K (sideB s) = mn k (rimN r (sideB s))
  · refine ⟨N ++ rimM K s, _, _, seq_step e1 (seq_step e2 (seq_step ((if_f t1).trans rfl) ((if_t (by rw [t2, decide_eq_true c])).trans (set_ok (d := .list ((N ++ rimM K s).map .int)) ?_)))), ?_, fun m hm => List.mem_append_left _ hm, fun _ m hm => List.mem_append_right _ hm⟩
    · show hCat (.list (N.map .int)) (.list ((rimM K s).map .int)) = _
      exact hCat_map PyData.int N (rimM K s) (by omega)
    · rw [List.length_append]; omega
  · refine ⟨N, _, _, seq_step e1 (seq_step e2 (seq_step ((if_f t1).trans rfl) ((if_f (by rw [t2, decide_eq_false c])).trans rfl))), by omega, fun m hm => hm, fun hs => absurd (par_tight hP hs) c⟩
theorem sides_loop {sc pool d3 msd d8 d10 d11 d12 d13 : Dt} {n : Int} {k : Nat} {r K : List T3} (hr : r.length ≤ 60) (hP : Par k r K) (SD : List (List Int)) (hl : SD.length ≤ 512) :
    ∃ N y10 y11 y12, forE (tgN 10) g_law_L1 (SD.map encL) (lwS sc pool d3 msd d8 n k r K [] d10 d11 d12 d13) = .ok (.nx (lwS sc pool d3 msd d8 n k r K N y10 y11 y12 d13)) ∧ ∀ s ∈ SD, rimN K (sideB s) ≤ k → ∀ m ∈ rimM K s, m ∈ N := by
  obtain ⟨ρ', hf, N, y10, y11, y12, rfl, _, hN⟩ := forE_ix encL (h := tgN 10) (b := g_law_L1) SD
    (fun i ρ => ∃ N y10 y11 y12, ρ = lwS sc pool d3 msd d8 n k r K N y10 y11 y12 d13 ∧ N.length ≤ i * 60 ∧ ∀ j (hj : j < SD.length), j < i → rimN K (sideB SD[j]) ≤ k → ∀ m ∈ rimM K SD[j], m ∈ N)
    (ρ := lwS sc pool d3 msd d8 n k r K [] d10 d11 d12 d13) ⟨[], d10, d11, d12, rfl, by simp, fun j _ h => by omega⟩ (by
      rintro i ρ hi ⟨N, y10, y11, y12, rfl, h1, h2⟩
      obtain ⟨N', z11, z12, k1, k2, k3, k4⟩ := side_turn (sc := sc) (pool := pool) (d3 := d3) (msd := msd) (d8 := d8) (d11 := y11) (d12 := y12) (d13 := d13) (n := n) (N := N) hr hP (by omega) SD[i]
      refine ⟨_, _, rfl, .inl k1, N', encL SD[i], z11, z12, rfl, by omega, fun j hj hji hs m hm => ?_⟩
      by_cases z : j = i
      · subst z; exact k4 hs m hm
      · exact k3 m (h2 j hj (by omega) hs m hm))
  refine ⟨N, y10, y11, y12, hf, fun s hs h m hm => ?_⟩
  obtain ⟨j, hj, rfl⟩ := List.getElem_of_mem hs
  exact hN j hj hj h m hm
theorem bne_inj {a b c : Bool} (h : (a != c) = (b != c)) : a = b := by cases a <;> cases b <;> cases c <;> simp at h ⊢
theorem rimB_mem {K : List T3} {t : T3} {s : List Int} (ht : t ∈ K) (h : sideB s t.2.1 ≠ sideB s t.2.2) : t.1 ∈ rimM K s :=
  List.mem_map.mpr ⟨t, List.mem_filter.mpr ⟨ht, by unfold rimB; simpa using h⟩, rfl⟩
theorem body_ok (ns : List Int) {n at' : Int} (n1 : 1 ≤ n) (n10 : n ≤ 10) (a0 : 0 ≤ at') (a1 : a1' = at' ∧ at' < 100) (x1 x4 x5 x6 x7 x8 x9 x10 x11 x12 x13 : Dt) :
    ∃ y1 y4 y5 y6 y7 y8 y9 y10 y11 y12 y13, g_law_L2 [.list (ns.map .int), x1, .int n, .int at', x4, x5, x6, x7, x8, x9, x10, x11, x12, x13] = .ok (.nx [.list (ns.map .int), y1, .int n, .int at', y4, y5, y6, y7, y8, y9, y10, y11, y12, y13]) := by
  obtain ⟨p0, h0, hp0⟩ := pool_ok ns (k := at') (by omega) (by omega)
  obtain ⟨d, p1, e1, d0, d1, hp1⟩ := tk_ok (i := 1) (gA := xCons (xP (gC (.int (2)))) xNil) (ρ := [.list (ns.map .int), p0, .int n, .int at', x4, x5, x6, x7, x8, x9, x10, x11, x12, x13]) rfl rfl hp0 (by omega : (0 : Int) < 2) (by omega)
  have e1 : xCallM .la 2 f_l_take 1 (xCons (xP (gC (.int (2)))) xNil) [.list (ns.map .int), p0, .int n, .int at', x4, x5, x6, x7, x8, x9, x10, x11, x12, x13] = .ok (.int d, [.list (ns.map .int), p1, .int n, .int at', x4, x5, x6, x7, x8, x9, x10, x11, x12, x13]) := e1
  obtain ⟨lm, hlm, lm0, lm1⟩ := ix_list (xs := [3, 6]) (lo := 3) (hi := 6) d0 d1 (by decide)
  have e2 : xOp hIx (xP (gLst (gCons (gC (.int (3))) (gCons (gC (.int (6))) (gNil))))) (xCallM .la 2 f_l_take 1 (xCons (xP (gC (.int (2)))) xNil)) [.list (ns.map .int), p0, .int n, .int at', x4, x5, x6, x7, x8, x9, x10, x11, x12, x13] = .ok (.int lm, [.list (ns.map .int), p1, .int n, .int at', x4, x5, x6, x7, x8, x9, x10, x11, x12, x13]) := by
    rw [xOp_def, xP_def]
    have : gLst (gCons (gC (.int (3))) (gCons (gC (.int (6))) (gNil))) [.list (ns.map .int), p0, .int n, .int at', x4, x5, x6, x7, x8, x9, x10, x11, x12, x13] = .ok (.list ([3, 6].map .int)) := rfl
    rw [this, bnd_ok, bnd_ok, e1, bnd_ok, hlm]
    rfl
  obtain ⟨km, p2, e3, km0, km1, hp2⟩ := tk_ok (i := 1) (size := lm) (gA := xCons (xOp hIx (xP (gLst (gCons (gC (.int (3))) (gCons (gC (.int (6))) (gNil))))) (xCallM .la 2 f_l_take 1 (xCons (xP (gC (.int (2)))) xNil))) xNil) (ρ := [.list (ns.map .int), p0, .int n, .int at', x4, x5, x6, x7, x8, x9, x10, x11, x12, x13]) (ρ' := [.list (ns.map .int), p1, .int n, .int at', x4, x5, x6, x7, x8, x9, x10, x11, x12, x13]) (by
    rw [xCons_def, e2]
    rfl) rfl hp1 (by omega) (by omega)
  obtain ⟨k, hk⟩ : ∃ k : Nat, (k : Int) = 1 + km := ⟨(1 + km).toNat, by omega⟩
  obtain ⟨d', p3, e4, d0', d1', hp3⟩ := tk_ok (i := 1) (gA := xCons (xP (gC (.int (3)))) xNil) (ρ := [.list (ns.map .int), p2, .int n, .int at', .int k, x5, x6, x7, x8, x9, x10, x11, x12, x13]) rfl rfl hp2 (by omega : (0 : Int) < 3) (by omega)
  have e4 : xCallM .la 2 f_l_take 1 (xCons (xP (gC (.int (3)))) xNil) [.list (ns.map .int), p2, .int n, .int at', .int k, x5, x6, x7, x8, x9, x10, x11, x12, x13] = .ok (.int d', [.list (ns.map .int), p3, .int n, .int at', .int k, x5, x6, x7, x8, x9, x10, x11, x12, x13]) := e4
  obtain ⟨lo, hlo, lo0, lo1⟩ := ix_list (xs := [18, 18, 60]) (lo := 18) (hi := 60) d0' d1' (by decide)
  have e5 : xOp hIx (xP (gLst (gCons (gC (.int (18))) (gCons (gC (.int (18))) (gCons (gC (.int (60))) (gNil)))))) (xCallM .la 2 f_l_take 1 (xCons (xP (gC (.int (3)))) xNil)) [.list (ns.map .int), p2, .int n, .int at', .int k, x5, x6, x7, x8, x9, x10, x11, x12, x13] = .ok (.int lo, [.list (ns.map .int), p3, .int n, .int at', .int k, x5, x6, x7, x8, x9, x10, x11, x12, x13]) := by
    rw [xOp_def, xP_def]
    have : gLst (gCons (gC (.int (18))) (gCons (gC (.int (18))) (gCons (gC (.int (60))) (gNil)))) [.list (ns.map .int), p2, .int n, .int at', .int k, x5, x6, x7, x8, x9, x10, x11, x12, x13] = .ok (.list ([18, 18, 60].map .int)) := rfl
    rw [this, bnd_ok, bnd_ok, e4, bnd_ok, hlo]
    rfl
  obtain ⟨r, p4, e6, hg, hrl, hp4⟩ := record_ok (n := n) (most := lo) hp3 n1 n10 (by omega) (by omega)
  obtain ⟨K, w1, w2, q1, hP, hNd, _⟩ := pared_ok (k := k) hg n1 n10 (by omega) (by omega)
  have hgK := hg.sub hP.sub
  obtain ⟨K', w3, w4, q2, _, _, hI⟩ := pared_ok (k := k) hgK n1 n10 (by omega) (by omega)
  have hK' := hI hNd
  subst hK'
  have hrl := hg.len
  have hKl := hgK.len
  have few := need_few hgK.dst hgK.inN n1 hNd
  obtain ⟨N, y10, y11, y12, q3, hNN⟩ := sides_loop (sc := .list (ns.map .int)) (pool := p4) (d3 := .int at') (msd := msD K') (d8 := x8) (d10 := x10) (d11 := x11) (d12 := x12) (d13 := x13) (n := n) (k := k) hrl hP ((List.range (2 ^ (n - 1).toNat - 1)).map fun (i : Nat) => sideOf n (1 + (i : Int))) (by
    rw [List.length_map, List.length_range]
    have := Nat.pow_le_pow_right (n := 2) (by omega) (show (n - 1).toNat ≤ 9 by omega)
    omega)
  have all_in : ∀ t ∈ K', t.1 ∈ N := fun t ht => by
    obtain ⟨S, ne, hS⟩ := need_cut hgK.dst ht (hNd t ht)
    have hr := hgK.inN t ht
    obtain ⟨i, hi, hb⟩ := some_bits n1 S hr.1 hr.2 ne
    have er : rimN K' (sideB (sideOf n (1 + (i : Int)))) = rimN K' S := (rimN_congr hgK.inN hb).trans (rimN_flip K' S (S 0))
    refine hNN _ (List.mem_map.mpr ⟨i, List.mem_range.mpr hi, rfl⟩) (by rw [er]; exact hS) _ (rimB_mem ht ?_)
    rw [hb _ hr.1.1 hr.1.2, hb _ hr.2.1 hr.2.2]
    exact fun z => ne (bne_inj z)
  -- the walk
  refine ⟨p4, .int k, .list (r.map enc3), msD K', .list (K'.map enc3), x8, .list (N.map .int), y10, y11, y12, x13, ?_⟩
  unfold g_law_L2
  refine seq_step (set_ok (callN_ok (ds := [.list (ns.map .int), .int at']) rfl rfl h0)) ?_
  dsimp only [List.set]
  refine seq_step (xset_ok (ρ' := [.list (ns.map .int), p2, .int n, .int at', x4, x5, x6, x7, x8, x9, x10, x11, x12, x13]) (d := .int k) ?_) ?_
  · rw [xOp_def, xP_def, gC_def, bnd_ok, bnd_ok, e3, bnd_ok, hk]
    rfl
  dsimp only [List.set]
  refine seq_step (xset_ok (ρ' := [.list (ns.map .int), p4, .int n, .int at', .int k, x5, x6, x7, x8, x9, x10, x11, x12, x13]) (d := .list (r.map enc3)) ?_) ?_
  · refine (xcallM_ok (c := .la) (n := 3) (g := f_l_record) (i := 1) (ρ' := [.list (ns.map .int), p3, .int n, .int at', .int k, x5, x6, x7, x8, x9, x10, x11, x12, x13]) (ds := [.int n, .int lo]) (a := p3) ?_ rfl rfl hp3.arg e6 hp4.arg)
    simp only [xCons_def, xP_def, gVar_def, List.getElem?_cons_zero, List.getElem?_cons_succ, bnd_ok, e5]
    rfl
  dsimp only [List.set]
  refine seq_step (set_ok (d := msD K') ?_) ?_
  · have c : gCallN 3 f_pared (gCons (gVar 2) (gCons (gCB (one hListOf) (gCons (gVar 5) gNil)) (gCons (gVar 4) (gNil)))) [.list (ns.map .int), p4, .int n, .int at', .int k, .list (r.map enc3), x6, x7, x8, x9, x10, x11, x12, x13] = .ok (.tuple [msD K', w1, w2]) := callN_ok (ds := [.int n, .list (r.map enc3), .int k]) rfl rfl q1
    rw [gOp_def, c]
    rfl
  dsimp only [List.set]
  refine seq_step (set_ok (d := .list (K'.map enc3)) ?_) ?_
  · have h := gLc_map enc3 (fun t => decide (t.1 ∈ K'.map fun u : T3 => u.1)) enc3 (gi := gSeq (gVar 5)) (h := tgN 8) (gt := gTest (gOp hIn (gOp hIx (gVar 8) (gC (.int (0)))) (gVar 6))) (ge := gVar 8) (ρ := [.list (ns.map .int), p4, .int n, .int at', .int k, .list (r.map enc3), msD K', x7, x8, x9, x10, x11, x12, x13]) (xs := r) rfl (by omega) (fun t _ => ⟨[.list (ns.map .int), p4, .int n, .int at', .int k, .list (r.map enc3), msD K', x7, enc3 t, x9, x10, x11, x12, x13], rfl, by
      unfold msD
      simp only [bnd_ok, gVar_def, gC_def, gOp_def, gUn_def, gNil_def, gCons_def, gIf_def, gTest_def, gNot_def, gAnd_def, gOr_def, gAndV_def, gOrV_def, gNotV_def, gCB_def, asB_b, hAdd_i, hSub_i, hLt_i, hLe_i, hGt_i, hGe_i, hMul_r, hMul_l, hMod_i, hDiv_s, hBand_i, hShr_i, hPow_10_18, hPow_10_27, hPow_10_28, hPow_10_29, hPow_10_30, hEq_i, hNe_i, hLen_l, hLen_t, hMin2_i, hMax2_i, hMin3_i, hInt1_b, hInt1_i, hBits_i, hListOf_l, hListOf_t, hTupOf_l, hTupOf_t, gSeqS_def, gSet_def, gRet_def, gIfS_def, gNext_def, gTup_def, gLst_def, List.getElem?_cons_zero, List.getElem?_cons_succ, List.set_cons_zero, List.set_cons_succ, List.length_cons, List.length_nil, Nat.zero_add, Nat.reduceAdd, Nat.reduceLeDiff, Nat.reduceSub, Nat.reduceMul, if_true, if_false, Bool.false_eq_true, List.replicate_succ, List.replicate_zero, List.cons_append, List.nil_append, tgN, tgT, tgCons, tgNil, Int.reducePow, Int.reduceAdd, Int.reduceSub, Int.reduceMul, decide_true, decide_false, Bool.not_true, Bool.not_false, gChain_def, hIsa_int, hIsa_intb, hIsa_list, hIsa_tuple, gDrop_def, ix3_0, hIn_ints], fun _ => rfl⟩)
    rw [filter_moments hg.dst hP.sub] at h
    exact h
  dsimp only [List.set]
  have l1 : gCB hLen (gCons (gVar 7) (gNil)) [.list (ns.map .int), p4, .int n, .int at', .int k, .list (r.map enc3), msD K', .list (K'.map enc3), x8, x9, x10, x11, x12, x13] = .ok (.int K'.length) := by
    simp only [bnd_ok, gVar_def, gC_def, gOp_def, gUn_def, gNil_def, gCons_def, gIf_def, gTest_def, gNot_def, gAnd_def, gOr_def, gAndV_def, gOrV_def, gNotV_def, gCB_def, asB_b, hAdd_i, hSub_i, hLt_i, hLe_i, hGt_i, hGe_i, hMul_r, hMul_l, hMod_i, hDiv_s, hBand_i, hShr_i, hPow_10_18, hPow_10_27, hPow_10_28, hPow_10_29, hPow_10_30, hEq_i, hNe_i, hLen_l, hLen_t, hMin2_i, hMax2_i, hMin3_i, hInt1_b, hInt1_i, hBits_i, hListOf_l, hListOf_t, hTupOf_l, hTupOf_t, gSeqS_def, gSet_def, gRet_def, gIfS_def, gNext_def, gTup_def, gLst_def, List.getElem?_cons_zero, List.getElem?_cons_succ, List.set_cons_zero, List.set_cons_succ, List.length_cons, List.length_nil, Nat.zero_add, Nat.reduceAdd, Nat.reduceLeDiff, Nat.reduceSub, Nat.reduceMul, if_true, if_false, Bool.false_eq_true, List.replicate_succ, List.replicate_zero, List.cons_append, List.nil_append, tgN, tgT, tgCons, tgNil, Int.reducePow, Int.reduceAdd, Int.reduceSub, Int.reduceMul, decide_true, decide_false, Bool.not_true, Bool.not_false, gChain_def, hIsa_int, hIsa_intb, hIsa_list, hIsa_tuple, gDrop_def, List.length_map]
  have l2 : gCB hLen (gCons (gVar 6) (gNil)) [.list (ns.map .int), p4, .int n, .int at', .int k, .list (r.map enc3), msD K', .list (K'.map enc3), x8, x9, x10, x11, x12, x13] = .ok (.int K'.length) := by
    unfold msD
    simp only [bnd_ok, gVar_def, gC_def, gOp_def, gUn_def, gNil_def, gCons_def, gIf_def, gTest_def, gNot_def, gAnd_def, gOr_def, gAndV_def, gOrV_def, gNotV_def, gCB_def, asB_b, hAdd_i, hSub_i, hLt_i, hLe_i, hGt_i, hGe_i, hMul_r, hMul_l, hMod_i, hDiv_s, hBand_i, hShr_i, hPow_10_18, hPow_10_27, hPow_10_28, hPow_10_29, hPow_10_30, hEq_i, hNe_i, hLen_l, hLen_t, hMin2_i, hMax2_i, hMin3_i, hInt1_b, hInt1_i, hBits_i, hListOf_l, hListOf_t, hTupOf_l, hTupOf_t, gSeqS_def, gSet_def, gRet_def, gIfS_def, gNext_def, gTup_def, gLst_def, List.getElem?_cons_zero, List.getElem?_cons_succ, List.set_cons_zero, List.set_cons_succ, List.length_cons, List.length_nil, Nat.zero_add, Nat.reduceAdd, Nat.reduceLeDiff, Nat.reduceSub, Nat.reduceMul, if_true, if_false, Bool.false_eq_true, List.replicate_succ, List.replicate_zero, List.cons_append, List.nil_append, tgN, tgT, tgCons, tgNil, Int.reducePow, Int.reduceAdd, Int.reduceSub, Int.reduceMul, decide_true, decide_false, Bool.not_true, Bool.not_false, gChain_def, hIsa_int, hIsa_intb, hIsa_list, hIsa_tuple, gDrop_def, List.length_map]
  have l3 : gOp hMul (gVar 4) (gOp hSub (gVar 2) (gC (.int (1)))) [.list (ns.map .int), p4, .int n, .int at', .int k, .list (r.map enc3), msD K', .list (K'.map enc3), x8, x9, x10, x11, x12, x13] = .ok (.int ((k * (n.toNat - 1) : Nat) : Int)) := by
    have hm : hMul (.int (k : Nat)) (.int (n - 1)) = .ok (.int ((k : Int) * (n - 1))) := hMul_l (by omega) (by omega)
    simp only [bnd_ok, gVar_def, gC_def, gOp_def, gUn_def, gNil_def, gCons_def, gIf_def, gTest_def, gNot_def, gAnd_def, gOr_def, gAndV_def, gOrV_def, gNotV_def, gCB_def, asB_b, hAdd_i, hSub_i, hLt_i, hLe_i, hGt_i, hGe_i, hMul_r, hMul_l, hMod_i, hDiv_s, hBand_i, hShr_i, hPow_10_18, hPow_10_27, hPow_10_28, hPow_10_29, hPow_10_30, hEq_i, hNe_i, hLen_l, hLen_t, hMin2_i, hMax2_i, hMin3_i, hInt1_b, hInt1_i, hBits_i, hListOf_l, hListOf_t, hTupOf_l, hTupOf_t, gSeqS_def, gSet_def, gRet_def, gIfS_def, gNext_def, gTup_def, gLst_def, List.getElem?_cons_zero, List.getElem?_cons_succ, List.set_cons_zero, List.set_cons_succ, List.length_cons, List.length_nil, Nat.zero_add, Nat.reduceAdd, Nat.reduceLeDiff, Nat.reduceSub, Nat.reduceMul, if_true, if_false, Bool.false_eq_true, List.replicate_succ, List.replicate_zero, List.cons_append, List.nil_append, tgN, tgT, tgCons, tgNil, Int.reducePow, Int.reduceAdd, Int.reduceSub, Int.reduceMul, decide_true, decide_false, Bool.not_true, Bool.not_false, gChain_def, hIsa_int, hIsa_intb, hIsa_list, hIsa_tuple, gDrop_def, hm]
    congr 2
    rw [Int.natCast_mul]
    congr 1
    omega
  refine seq_step ((if_f ?_).trans rfl) ?_
  · rw [gOr_def, gTest_def, gOp_def, l1, bnd_ok, l2, bnd_ok, hNe_i, gTest_def, gOp_def, l1, bnd_ok, l3]
    simp only [bnd_ok, asB_b, hGt_i, beq_self_eq_true, Bool.not_true, Bool.false_eq_true, if_false]
    rw [decide_eq_false (by omega)]
  refine seq_step (set_ok (d := .list (([] : List Int).map .int)) rfl) ?_
  dsimp only [List.set]
  refine seq_step (for_ok (ds := ((List.range (2 ^ (n - 1).toNat - 1)).map fun (i : Nat) => sideOf n (1 + (i : Int))).map encL) ?_ q3) ?_
  · exact seqG_l (callN_ok (ds := [.int n]) rfl rfl (sides_ok n1 n10))
  refine (if_f ?_).trans rfl
  have ha : gCB hAll (gCons (gLc (gSeq (gVar 6)) (tgN 13) (gYes) (gOp hIn (gVar 13) (gVar 9))) (gNil)) (lwS (.list (ns.map .int)) p4 (.int at') (msD K') x8 n k r K' N y10 y11 y12 x13) = .ok (.bool true) := by
    have h := gLc_map PyData.int (fun _ => true) (fun (m : Int) => PyData.bool (decide (m ∈ N))) (gi := gSeq (gVar 6)) (h := tgN 13) (gt := gYes) (ge := gOp hIn (gVar 13) (gVar 9)) (ρ := lwS (.list (ns.map .int)) p4 (.int at') (msD K') x8 n k r K' N y10 y11 y12 x13) (xs := K'.map fun u : T3 => u.1) rfl (by rw [List.length_map]; omega) (fun m _ => ⟨_, rfl, rfl, fun _ => by
      show hIn (.int m) (.list (N.map .int)) = _
      rw [hIn_ints]⟩)
    rw [List.filter_eq_self.mpr (fun _ _ => rfl)] at h
    rw [gCB_def, gCons_def, h, bnd_ok, gNil_def, bnd_ok, bnd_ok]
    have : ((K'.map fun u : T3 => u.1).map fun (m : Int) => PyData.bool (decide (m ∈ N))) = ((K'.map fun u : T3 => u.1).map fun m => decide (m ∈ N)).map .bool := by simp only [List.map_map]; rfl
    rw [this]
    unfold hAll
    simp only [allB_map]
    congr 2
    rw [List.all_map, List.all_eq_true]
    intro m hm
    obtain ⟨t, ht, rfl⟩ := List.mem_map.mp hm
    exact decide_eq_true (all_in t ht)
  have hp : gOp hIx (gCallN 3 f_pared (gCons (gVar 2) (gCons (gVar 7) (gCons (gVar 4) (gNil))))) (gC (.int (0))) (lwS (.list (ns.map .int)) p4 (.int at') (msD K') x8 n k r K' N y10 y11 y12 x13) = .ok (msD K') := by
    have c : gCallN 3 f_pared (gCons (gVar 2) (gCons (gVar 7) (gCons (gVar 4) (gNil)))) (lwS (.list (ns.map .int)) p4 (.int at') (msD K') x8 n k r K' N y10 y11 y12 x13) = .ok (.tuple [msD K', w3, w4]) := callN_ok (ds := [.int n, .list (K'.map enc3), .int k]) rfl rfl q2
    rw [gOp_def, c]
    rfl
  have hq : gVar 6 (lwS (.list (ns.map .int)) p4 (.int at') (msD K') x8 n k r K' N y10 y11 y12 x13) = .ok (msD K') := rfl
  rw [gOr_def, gNot_def, gTest_def, ha, gTest_def, gOp_def, hp, bnd_ok, bnd_ok, asB_b, bnd_ok, bnd_ok, hq, bnd_ok]
  unfold msD
  rw [hNe_ints]
  simp [asB_b]
theorem law_true (ns : List Int) (hl : ns.length ≤ 63) (_ : ∀ z ∈ ns, Builtin.Int.intBits z ≤ 1048576) : f_law [.list (ns.map .int)] = .ok (.bool true) := by
  obtain ⟨p0, h0, hp0⟩ := pool_ok ns (k := 0) (by omega) (by omega)
  obtain ⟨d, p1, e1, d0, d1, hp1⟩ := tk_ok (i := 1) (gA := xCons (xP (gC (.int (8)))) xNil) (ρ := [.list (ns.map .int), p0, .none, .none, .none, .none, .none, .none, .none, .none, .none, .none, .none, .none]) rfl rfl hp0 (by omega : (0 : Int) < 8) (by omega)
  have e1 : xCallM .la 2 f_l_take 1 (xCons (xP (gC (.int (8)))) xNil) [.list (ns.map .int), p0, .none, .none, .none, .none, .none, .none, .none, .none, .none, .none, .none, .none] = .ok (.int d, [.list (ns.map .int), p1, .none, .none, .none, .none, .none, .none, .none, .none, .none, .none, .none, .none]) := e1
  obtain ⟨lm, hlm, lm0, lm1⟩ := ix_list (xs := [6, 6, 6, 6, 6, 6, 6, 10]) (lo := 6) (hi := 10) d0 d1 (by decide)
  have e2 : xOp hIx (xP (gLst (gCons (gC (.int (6))) (gCons (gC (.int (6))) (gCons (gC (.int (6))) (gCons (gC (.int (6))) (gCons (gC (.int (6))) (gCons (gC (.int (6))) (gCons (gC (.int (6))) (gCons (gC (.int (10))) (gNil))))))))))) (xCallM .la 2 f_l_take 1 (xCons (xP (gC (.int (8)))) xNil)) [.list (ns.map .int), p0, .none, .none, .none, .none, .none, .none, .none, .none, .none, .none, .none, .none] = .ok (.int lm, [.list (ns.map .int), p1, .none, .none, .none, .none, .none, .none, .none, .none, .none, .none, .none, .none]) := by
    rw [xOp_def, xP_def]
    have : gLst (gCons (gC (.int (6))) (gCons (gC (.int (6))) (gCons (gC (.int (6))) (gCons (gC (.int (6))) (gCons (gC (.int (6))) (gCons (gC (.int (6))) (gCons (gC (.int (6))) (gCons (gC (.int (10))) (gNil))))))))) [.list (ns.map .int), p0, .none, .none, .none, .none, .none, .none, .none, .none, .none, .none, .none, .none] = .ok (.list ([6, 6, 6, 6, 6, 6, 6, 10].map .int)) := rfl
    rw [this, bnd_ok, bnd_ok, e1, bnd_ok, hlm]
    rfl
  obtain ⟨km, p2, e3, km0, km1, hp2⟩ := tk_ok (i := 1) (size := lm) (gA := xCons (xOp hIx (xP (gLst (gCons (gC (.int (6))) (gCons (gC (.int (6))) (gCons (gC (.int (6))) (gCons (gC (.int (6))) (gCons (gC (.int (6))) (gCons (gC (.int (6))) (gCons (gC (.int (6))) (gCons (gC (.int (10))) (gNil))))))))))) (xCallM .la 2 f_l_take 1 (xCons (xP (gC (.int (8)))) xNil))) xNil) (ρ := [.list (ns.map .int), p0, .none, .none, .none, .none, .none, .none, .none, .none, .none, .none, .none, .none]) (ρ' := [.list (ns.map .int), p1, .none, .none, .none, .none, .none, .none, .none, .none, .none, .none, .none, .none]) (by
    rw [xCons_def, e2]
    rfl) rfl hp1 (by omega) (by omega)
  generalize hj : (if (if (ns.length : Int) < 4 then (ns.length : Int) else 4) > 2 then (if (ns.length : Int) < 4 then (ns.length : Int) else 4) else 2) = j
  have j1 : 2 ≤ j ∧ j ≤ 7 := by split at hj <;> (try split at hj) <;> (try split at hj) <;> omega
  obtain ⟨ρ', hf, f1, f3, f4, f5, f6, f7, f8, f9, f10, f11, f12, f13, rfl⟩ := forE_ix (fun (k : Nat) => PyData.int (1 + (k : Int))) (h := tgN 3) (b := g_law_L2) (List.range (j - 1).toNat)
    (fun _ ρ => ∃ f1 f3 f4 f5 f6 f7 f8 f9 f10 f11 f12 f13, ρ = [.list (ns.map .int), f1, .int (1 + km), f3, f4, f5, f6, f7, f8, f9, f10, f11, f12, f13])
    (ρ := [.list (ns.map .int), p2, .int (1 + km), .none, .none, .none, .none, .none, .none, .none, .none, .none, .none, .none]) ⟨_, _, _, _, _, _, _, _, _, _, _, _, rfl⟩ (by
      rintro i ρ hi ⟨f1, f3, f4, f5, f6, f7, f8, f9, f10, f11, f12, f13, rfl⟩
      rw [List.length_range] at hi
      rw [List.getElem_range]
      obtain ⟨y1, y4, y5, y6, y7, y8, y9, y10, y11, y12, y13, h1⟩ := body_ok ns (n := 1 + km) (at' := 1 + (i : Int)) (by omega) (by omega) (by omega) ⟨rfl, by omega⟩ f1 f4 f5 f6 f7 f8 f9 f10 f11 f12 f13
      exact ⟨_, _, rfl, .inl h1, y1, _, y4, y5, y6, y7, y8, y9, y10, y11, y12, y13, rfl⟩)
  refine fnN_rt ?_
  show g_law [.list (ns.map .int), .none, .none, .none, .none, .none, .none, .none, .none, .none, .none, .none, .none, .none] = _
  unfold g_law
  refine seq_step (set_ok (callN_ok (ds := [.list (ns.map .int), .int 0]) rfl rfl h0)) ?_
  dsimp only [List.set]
  refine seq_step (xset_ok (ρ' := [.list (ns.map .int), p2, .none, .none, .none, .none, .none, .none, .none, .none, .none, .none, .none, .none]) (d := .int (1 + km)) ?_) ?_
  · rw [xOp_def, xP_def, gC_def, bnd_ok, bnd_ok, e3]
    rfl
  dsimp only [List.set]
  refine seq_step (for_ok (ds := (List.range (j - 1).toNat).map fun (k : Nat) => PyData.int (1 + (k : Int))) ?_ hf) rfl
  rw [rng2_ok (i := 1) (j := j) (by simp only [bnd_ok, gVar_def, gC_def, gOp_def, gUn_def, gNil_def, gCons_def, gIf_def, gTest_def, gNot_def, gAnd_def, gOr_def, gAndV_def, gOrV_def, gNotV_def, gCB_def, asB_b, hAdd_i, hSub_i, hLt_i, hLe_i, hGt_i, hGe_i, hMul_r, hMul_l, hMod_i, hDiv_s, hBand_i, hShr_i, hPow_10_18, hPow_10_27, hPow_10_28, hPow_10_29, hPow_10_30, hEq_i, hNe_i, hLen_l, hLen_t, hMin2_i, hMax2_i, hMin3_i, hInt1_b, hInt1_i, hBits_i, hListOf_l, hListOf_t, hTupOf_l, hTupOf_t, gSeqS_def, gSet_def, gRet_def, gIfS_def, gNext_def, gTup_def, gLst_def, List.getElem?_cons_zero, List.getElem?_cons_succ, List.set_cons_zero, List.set_cons_succ, List.length_cons, List.length_nil, Nat.zero_add, Nat.reduceAdd, Nat.reduceLeDiff, Nat.reduceSub, Nat.reduceMul, if_true, if_false, Bool.false_eq_true, List.replicate_succ, List.replicate_zero, List.cons_append, List.nil_append, tgN, tgT, tgCons, tgNil, Int.reducePow, Int.reduceAdd, Int.reduceSub, Int.reduceMul, decide_true, decide_false, Bool.not_true, Bool.not_false, gChain_def, hIsa_int, hIsa_intb, hIsa_list, hIsa_tuple, gDrop_def, List.length_map, hj]) (by omega) (by omega) (by omega) (by omega)]
  rfl
end K40
end T_K40Q
open PySem PySem.W PyProof.Rows
set_option maxRecDepth 100000 in
set_option maxHeartbeats 0 in
theorem PySem.Challenge.cw_sinceply_k40_whole_pared_on_every_side_holds : PySem.Challenge.rw_sinceply_k40_whole_pared_on_every_side.Holds := by
  w_on; o_law; k_head; (case hw => w_witness2)
  k_fill
  refine L2.walk_ofB (l := PySem.Challenge.rw_sinceply_k40_whole_pared_on_every_side) (n := 63) (k := 8) (x := "script") (CX := fun _ => L2.CX0) (sp := fun w => Sim.spLaw _ K40.f_law) rfl (by decide) rfl ⟨rfl, by decide, by decide⟩ (fun w h Y => PySem.W.kIn_of Y) ?F (fun _ _ a ns hl hb _ hS => Sim.spLaw_of hS (K40.law_true ns hl hb)) (fun _ _ _ _ _ h => h)
  case F =>
    intro w mg fa h KX G hmg
    refine' Sim.okLaw_of (K40.all_mk KX G hmg ?a0 ?l0 ?c0 ?k0 ?a1 ?l1 ?c1 ?k1 ?a2 ?l2 ?c2 ?k2 ?a3 ?l3 ?c3 ?k3 ?a4 ?l4 ?c4 ?k4 ?a5 ?l5 ?c5 ?k5 ?a6 ?l6 ?c6 ?k6 ?a7 ?l7 ?c7 ?k7 ?a8 ?l8 ?c8 ?k8 ?a9 ?l9 ?c9 ?k9 ?a10 ?l10 ?c10 ?k10 ?a11 ?l11 ?c11 ?k11 ?a12 ?l12 ?c12 ?k12 ?a13 ?l13 ?c13 ?k13 ?a14 ?l14 ?c14 ?k14 ?a15 ?l15 ?c15 ?k15 ?a16 ?l16 ?c16 ?k16 ?e16 ?a17 ?l17 ?c17 ?k17 ?a18 ?l18 ?c18 ?k18 ?a19 ?l19 ?c19 ?k19 ?a20 ?l20 ?c20 ?k20 ?a21 ?l21 ?c21 ?k21 ?a22 ?l22 ?c22 ?k22 ?a23 ?l23 ?c23 ?k23 ?a24 ?l24 ?c24 ?k24 ?a25 ?l25 ?c25 ?k25 ?a26 ?l26 ?c26 ?k26 ?a27 ?l27 ?c27 ?k27 ?a28 ?l28 ?c28 ?k28 ?z_len ?z_tuple ?z_range ?z_isinstance ?z_int ?z_bool ?z_min ?z_max ?z_enumerate ?z_list ?z_reversed ?z_all ?y_MOST_LAYERS)
    (case a0 => k_is); (case l0 => k_is); (case c0 => k_is); (case k0 => k_is); (case a1 => k_is); (case l1 => k_is); (case c1 => k_is); (case k1 => k_is); (case a2 => k_is); (case l2 => k_is); (case c2 => k_is); (case k2 => k_is); (case a3 => k_is); (case l3 => k_is); (case c3 => k_is); (case k3 => k_is); (case a4 => k_is); (case l4 => k_is); (case c4 => k_is); (case k4 => k_is); (case a5 => k_is); (case l5 => k_is); (case c5 => k_is); (case k5 => k_is); (case a6 => k_is); (case l6 => k_is); (case c6 => k_is); (case k6 => k_is); (case a7 => k_is); (case l7 => k_is); (case c7 => k_is); (case k7 => k_is); (case a8 => k_is); (case l8 => k_is); (case c8 => k_is); (case k8 => k_is); (case a9 => k_is); (case l9 => k_is); (case c9 => k_is); (case k9 => k_is); (case a10 => k_is); (case l10 => k_is); (case c10 => k_is); (case k10 => k_is); (case a11 => k_is); (case l11 => k_is); (case c11 => k_is); (case k11 => k_is); (case a12 => k_is); (case l12 => k_is); (case c12 => k_is); (case k12 => k_is); (case a13 => k_is); (case l13 => k_is); (case c13 => k_is); (case k13 => k_is); (case a14 => k_is); (case l14 => k_is); (case c14 => k_is); (case k14 => k_is); (case a15 => k_is); (case l15 => k_is); (case c15 => k_is); (case k15 => k_is); (case a16 => k_is); (case l16 => k_is); (case c16 => k_is); (case k16 => k_is); (case e16 => k_is); (case a17 => k_is); (case l17 => k_is); (case c17 => k_is); (case k17 => k_is); (case a18 => k_is); (case l18 => k_is); (case c18 => k_is); (case k18 => k_is); (case a19 => k_is); (case l19 => k_is); (case c19 => k_is); (case k19 => k_is); (case a20 => k_is); (case l20 => k_is); (case c20 => k_is); (case k20 => k_is); (case a21 => k_is); (case l21 => k_is); (case c21 => k_is); (case k21 => k_is); (case a22 => k_is); (case l22 => k_is); (case c22 => k_is); (case k22 => k_is); (case a23 => k_is); (case l23 => k_is); (case c23 => k_is); (case k23 => k_is); (case a24 => k_is); (case l24 => k_is); (case c24 => k_is); (case k24 => k_is); (case a25 => k_is); (case l25 => k_is); (case c25 => k_is); (case k25 => k_is); (case a26 => k_is); (case l26 => k_is); (case c26 => k_is); (case k26 => k_is); (case a27 => k_is); (case l27 => k_is); (case c27 => k_is); (case k27 => k_is); (case a28 => k_is); (case l28 => k_is); (case c28 => k_is); (case k28 => k_is); (case z_len => k_is); (case z_tuple => k_is); (case z_range => k_is); (case z_isinstance => k_is); (case z_int => k_is); (case z_bool => k_is); (case z_min => k_is); (case z_max => k_is); (case z_enumerate => k_is); (case z_list => k_is); (case z_reversed => k_is); (case z_all => k_is); (case y_MOST_LAYERS => k_is)
