import PyProof.Rows.All
import Wide.All
import OpenK.AllK
import Wide.FinOn
import HandS.EndBits
import HandS.ForMost
import HandS.Walk
import HandS.Wide
import HandS.ForExc
import HandS.ExcValue
import HandS.SortInts
import HandS.Deep
import HandS.WideBits
import HandS.TupAny
import HandS.IsInst
import HandS.Iter
import HandS.Rev
import HandS.RevTup
import HandS.Conv
import PyProof.ListRange
import HandS.Dict
import HandS.Style
import HandS.TupSets
import HandS.SetFor
import HandS.ExcIs
import PySem.Challenge.RW_sinceply_k58_papers_judged
section T_SimA
set_option Elab.async false
set_option linter.all false
set_option maxRecDepth 100000
/-! SimA: a plain functional reading (closures over PyData) of the hand layer's readings. -/
namespace Sim
open PySem PySem.Spec L2
open PyProof.Rows hiding St

abbrev Dt := PyData

/-! ### what stands for a datum -/
def Fz (K : PySem.W.Frag) (H : Hp) (a : Addr) (xs : List V) : Prop :=
  (∃ o, H a = some (.frz o (.lst xs))) ∨
    ∃ (o : Obj) (its : Array Value) (n : Nat), K.lookup a = some o ∧ o.cls = .type "list" ∧ o.dict = none ∧ o.data = .seq its n ∧ its.size ≤ sizeLine ∧ Vals xs its.toList

def keyD : Key → Dt
  | .inl i => .int i
  | .inr x => .str x
/-- a caught exception as a datum: its class's name, its moment if it has one -/
abbrev exnM : Option Int → Dt
  | none => .none
  | some i => .int i
abbrev exnD (cls : Str) (m : Option Int) : Dt := .dict [(.none, .str cls), (.none, exnM m)]
/-- the datum of an exception -/
def exnL : List (Dt × Dt) → Bool
  | (.none, _) :: _ => true
  | _ => false
/-- an exception object, tracked -/
def ExH (C : Value) (d : Option Addr) (a : Addr) : HO := .ext fun h => ∃ (oe : Obj) (vs : Array Value), h.get? a = some oe ∧ Zc C d oe ∧ oe.data = .fields vs
def XdAt (H : Hp) (d : Option Addr) (m : Option Int) : Prop := match m with
  | none => d = none
  | some i => ∃ dd, d = some dd ∧ H dd = some (.xd [("moment", .int i)])
mutual
inductive Rp (K : PySem.W.Frag) (F : Addr → Prop) (H : Hp) : V → Dt → Prop
  | non : Rp K F H .non .none
  | bl (b : Bool) : Rp K F H (.bl b) (.bool b)
  | int (i : Int) : Rp K F H (.int i) (.int i)
  | str (x : Str) : Rp K F H (.str x) (.str x)
  | lst {a : Addr} {xs : List V} {ds : List Dt} : H a = some (.lst xs) → F a → RpA K F H xs ds → Rp K F H (.ref a) (.list ds)
  | fz {a : Addr} {xs : List V} {ds : List Dt} : Fz K H a xs → RpA K F H xs ds → Rp K F H (.ref a) (.list ds)
  | tup {a : Addr} {xs : List V} {ds : List Dt} : SqT K H a xs → RpA K F H xs ds → Rp K F H (.ref a) (.tuple ds)
  | dic {a : Addr} {kvs : List (Key × V)} {es : List (Dt × Dt)} : H a = some (.dK kvs) → F a → kvs.map (fun kv => keyD kv.1) = es.map (fun e => e.1) → RpA K F H (kvs.map fun kv => kv.2) (es.map fun e => e.2) → Rp K F H (.ref a) (.dict es)
  | exn {a C : Addr} {cls : Str} {d : Option Addr} {m : Option Int} : PySem.W.nsIn K mainGlobals cls = some (some (.ref C)) → H a = some (ExH (.ref C) d a) → XdAt H d m → Rp K F H (.ref a) (.dict [(.none, .str cls), (.none, exnM m)])
inductive RpA (K : PySem.W.Frag) (F : Addr → Prop) (H : Hp) : List V → List Dt → Prop
  | nil : RpA K F H [] []
  | cons {v : V} {vs : List V} {d : Dt} {ds : List Dt} : Rp K F H v d → RpA K F H vs ds → RpA K F H (v :: vs) (d :: ds)
end

section
variable {K : PySem.W.Frag} {F F' : Addr → Prop} {H H' : Hp} {v : V} {d : Dt} {vs : List V} {ds : List Dt} {a p : Addr} {xs : List V}

theorem Fz.same (e : Same H H') (h : Fz K H a xs) : Fz K H' a xs := by
  rcases h with ⟨o, h⟩ | h
  · exact .inl ⟨o, e _ _ h⟩
  · exact .inr h
theorem Fz.sql (h : Fz K H a xs) : SqL K H a xs := by
  rcases h with ⟨o, h⟩ | h
  · exact .inl (.inr ⟨o, h⟩)
  · exact .inr h
theorem sqt_same (e : Same H H') (h : SqT K H a xs) : SqT K H' a xs := by
  rcases h with (h | ⟨o, h⟩) | h
  · exact .inl (.inl (e _ _ h))
  · exact .inl (.inr ⟨o, e _ _ h⟩)
  · exact .inr h

theorem XdAt.same {d : Option Addr} {m : Option Int} (e : Same H H') (x : XdAt H d m) : XdAt H' d m := by
  cases m with
  | none => exact x
  | some i =>
    obtain ⟨dd, h1, h2⟩ := x
    exact ⟨dd, h1, e _ _ h2⟩
mutual
theorem Rp.mono (e : Same H H') (f : ∀ a, F a → H a ≠ none → F' a) : ∀ {v : V} {d : Dt}, Rp K F H v d → Rp K F' H' v d
  | _, _, .non => .non
  | _, _, .bl b => .bl b
  | _, _, .int i => .int i
  | _, _, .str x => .str x
  | _, _, .lst h fa r => .lst (e _ _ h) (f _ fa (by rw [h]; exact fun z => nomatch z)) (RpA.mono e f r)
  | _, _, .fz h r => .fz (h.same e) (RpA.mono e f r)
  | _, _, .tup h r => .tup (sqt_same e h) (RpA.mono e f r)
  | _, _, .dic h fa hk r => .dic (e _ _ h) (f _ fa (by rw [h]; exact fun z => nomatch z)) hk (RpA.mono e f r)
  | _, _, .exn n h x => .exn n (e _ _ h) (x.same e)
theorem RpA.mono (e : Same H H') (f : ∀ a, F a → H a ≠ none → F' a) : ∀ {vs : List V} {ds : List Dt}, RpA K F H vs ds → RpA K F' H' vs ds
  | _, _, .nil => .nil
  | _, _, .cons h r => .cons (Rp.mono e f h) (RpA.mono e f r)
end
/-- what holds a place of its own (no tuple, not locked) -/
def Mutb (o : HO) : Prop := match o with
  | .lst _ => True
  | .dK _ => True
  | .dT _ => True
  | _ => False
theorem exH_ne {o : HO} {C : Value} {d : Option Addr} (hp : H p = some o) (m : Mutb o) (h : H a = some (ExH C d a)) : a ≠ p := fun z => by
  subst z
  rw [hp] at h
  cases h
  exact m
theorem XdAt.updM {o o' : HO} {d : Option Addr} {m : Option Int} (hp : H p = some o) (mu : Mutb o) (x : XdAt H d m) : XdAt (upd H p o') d m := by
  cases m with
  | none => exact x
  | some i =>
    obtain ⟨dd, h1, h2⟩ := x
    refine ⟨dd, h1, ?_⟩
    rw [upd_ne ?_]
    · exact h2
    · intro z
      subst z
      rw [hp] at h2
      cases h2
      exact mu
theorem Fz.updM {o o' : HO} (hp : H p = some o) (m : Mutb o) (h : Fz K H a xs) : Fz K (upd H p o') a xs := by
  rcases h with ⟨q, h⟩ | h
  · refine .inl ⟨q, ?_⟩
    rw [upd_ne ?_]
    · exact h
    · intro z
      subst z
      rw [hp] at h
      cases h
      exact m
  · exact .inr h
theorem sqt_updM {o o' : HO} (hp : H p = some o) (m : Mutb o) (h : SqT K H a xs) : SqT K (upd H p o') a xs := by
  rcases h with (h | ⟨q, h⟩) | h
  · refine .inl (.inl ?_)
    rw [upd_ne ?_]
    · exact h
    · intro z
      subst z
      rw [hp] at h
      cases h
      exact m
  · refine .inl (.inr ⟨q, ?_⟩)
    rw [upd_ne ?_]
    · exact h
    · intro z
      subst z
      rw [hp] at h
      cases h
      exact m
  · exact .inr h
mutual
theorem Rp.updM {o o' : HO} (hp : H p = some o) (m : Mutb o) (nf : ∀ a, F a → a ≠ p) : ∀ {v : V} {d : Dt}, Rp K F H v d → Rp K F (upd H p o') v d
  | _, _, .non => .non
  | _, _, .bl b => .bl b
  | _, _, .int i => .int i
  | _, _, .str x => .str x
  | _, _, .lst h fa r => .lst (by rw [upd_ne (nf _ fa)]; exact h) fa (RpA.updM hp m nf r)
  | _, _, .fz h r => .fz (h.updM hp m) (RpA.updM hp m nf r)
  | _, _, .tup h r => .tup (sqt_updM hp m h) (RpA.updM hp m nf r)
  | _, _, .dic h fa hk r => .dic (by rw [upd_ne (nf _ fa)]; exact h) fa hk (RpA.updM hp m nf r)
  | _, _, .exn n h x => .exn n (by rw [upd_ne (exH_ne hp m h)]; exact h) (x.updM hp m)
theorem RpA.updM {o o' : HO} (hp : H p = some o) (m : Mutb o) (nf : ∀ a, F a → a ≠ p) : ∀ {vs : List V} {ds : List Dt}, RpA K F H vs ds → RpA K F (upd H p o') vs ds
  | _, _, .nil => .nil
  | _, _, .cons h r => .cons (Rp.updM hp m nf h) (RpA.updM hp m nf r)
end
mutual
theorem Rp.dp : ∀ {v : V} {d : Dt}, Rp K F H v d → PyData.canLay0 d = true → Dp K H v d
  | _, _, .non, _ => .non
  | _, _, .bl b, _ => .bl b
  | _, _, .int i, _ => .int i
  | _, _, .str x, _ => .str x
  | _, _, .lst h _ r, c => .lst (.inl (.inl h)) (RpA.dp r (by simpa [PyData.canLay0] using c))
  | _, _, .fz h r, c => .lst h.sql (RpA.dp r (by simpa [PyData.canLay0] using c))
  | _, _, .tup h r, c => .tup h (RpA.dp r (by simpa [PyData.canLay0] using c))
  | _, _, .dic _ _ _ _, c => by simp [PyData.canLay0] at c
  | _, _, .exn _ _ _, c => by simp [PyData.canLay0] at c
theorem RpA.dp : ∀ {vs : List V} {ds : List Dt}, RpA K F H vs ds → PyData.canLayAll0 ds = true → DpAll K H vs ds
  | _, _, .nil, _ => .nil
  | _, _, .cons h r, c => by
    unfold PyData.canLayAll0 at c
    rw [Bool.and_eq_true] at c
    exact .cons (Rp.dp h c.1) (RpA.dp r c.2)
end
theorem shaped_lay {d : Dt} (h : SeqAt.shaped d = true) : PyData.canLay0 d = true := by
  unfold SeqAt.shaped at h
  rw [Bool.and_eq_true] at h
  exact h.1
theorem RpA.length : ∀ {vs : List V} {ds : List Dt}, RpA K F H vs ds → vs.length = ds.length
  | _, _, .nil => rfl
  | _, _, .cons _ r => by rw [List.length_cons, List.length_cons, r.length]
theorem RpA.get : ∀ {vs : List V} {ds : List Dt} {i : Nat} {v : V}, RpA K F H vs ds → vs[i]? = some v → ∃ d, ds[i]? = some d ∧ Rp K F H v d
  | _, _, _, _, .nil, e => by simp at e
  | _, _, 0, _, .cons h _, e => by simp at e; subst e; exact ⟨_, rfl, h⟩
  | _, _, i + 1, v, .cons _ r, e => by
    obtain ⟨d, h1, h2⟩ := RpA.get (i := i) (v := v) r (by simpa using e)
    exact ⟨d, by simpa using h1, h2⟩
theorem RpA.get' : ∀ {vs : List V} {ds : List Dt} {i : Nat} {d : Dt}, RpA K F H vs ds → ds[i]? = some d → ∃ v, vs[i]? = some v ∧ Rp K F H v d
  | _, _, _, _, .nil, e => by simp at e
  | _, _, 0, _, .cons h _, e => by simp at e; subst e; exact ⟨_, rfl, h⟩
  | _, _, i + 1, d, .cons _ r, e => by
    obtain ⟨v, h1, h2⟩ := RpA.get' (i := i) (d := d) r (by simpa using e)
    exact ⟨v, by simpa using h1, h2⟩
theorem RpA.append : ∀ {xs ys : List V} {ds es : List Dt}, RpA K F H xs ds → RpA K F H ys es → RpA K F H (xs ++ ys) (ds ++ es)
  | _, _, _, _, .nil, s => s
  | _, _, _, _, .cons h r, s => .cons h (RpA.append r s)
theorem RpA.take : ∀ {xs : List V} {ds : List Dt} (n : Nat), RpA K F H xs ds → RpA K F H (xs.take n) (ds.take n)
  | _, _, 0, _ => .nil
  | _, _, _ + 1, .nil => .nil
  | _, _, n + 1, .cons h r => .cons h (RpA.take n r)
theorem RpA.drop : ∀ {xs : List V} {ds : List Dt} (n : Nat), RpA K F H xs ds → RpA K F H (xs.drop n) (ds.drop n)
  | _, _, 0, r => r
  | _, _, _ + 1, .nil => .nil
  | _, _, n + 1, .cons _ r => RpA.drop n r
theorem RpA.set {x : V} {d : Dt} (h : Rp K F H x d) : ∀ {xs : List V} {ds : List Dt} (i : Nat), RpA K F H xs ds → RpA K F H (xs.set i x) (ds.set i d)
  | _, _, _, .nil => .nil
  | _, _, 0, .cons _ r => .cons h r
  | _, _, i + 1, .cons q r => .cons q (RpA.set h i r)
theorem RpA.reverse {xs : List V} {ds : List Dt} (h : RpA K F H xs ds) : RpA K F H xs.reverse ds.reverse := by
  induction xs generalizing ds with
  | nil => cases h; exact .nil
  | cons x xs ih =>
    cases h with
    | cons q r =>
      rw [List.reverse_cons, List.reverse_cons]
      exact (ih r).append (.cons q .nil)
theorem RpA.flat {xs : List V} {ds : List Dt} (h : RpA K F H xs ds) : ∀ k : Nat, RpA K F H (List.replicate k xs).flatten (List.replicate k ds).flatten
  | 0 => .nil
  | k + 1 => by
    rw [List.replicate_succ, List.replicate_succ, List.flatten_cons, List.flatten_cons]
    exact h.append (RpA.flat h k)
mutual
def pure1 : Dt → Bool
  | .list _ => false
  | .dict _ => false
  | .tuple xs => pureA xs
  | _ => true
def pureA : List Dt → Bool
  | [] => true
  | x :: xs => pure1 x && pureA xs
end
mutual
theorem Rp.pure : ∀ {v : V} {d : Dt}, Rp K F H v d → pure1 d = true → Rp K F' H v d
  | _, _, .non, _ => .non
  | _, _, .bl b, _ => .bl b
  | _, _, .int i, _ => .int i
  | _, _, .str x, _ => .str x
  | _, _, .lst h _ r, e => by rw [pure1] at e; cases e
  | _, _, .fz h r, e => by rw [pure1] at e; cases e
  | _, _, .tup h r, e => .tup h (RpA.pure r (by rw [pure1] at e; exact e))
  | _, _, .dic h _ _ r, e => by rw [pure1] at e; cases e
  | _, _, .exn n h x, _ => .exn n h x
theorem RpA.pure : ∀ {vs : List V} {ds : List Dt}, RpA K F H vs ds → pureA ds = true → RpA K F' H vs ds
  | _, _, .nil, _ => .nil
  | _, _, .cons h r, e => by
    rw [pureA, Bool.and_eq_true] at e
    exact .cons (Rp.pure h e.1) (RpA.pure r e.2)
end
theorem Rp.weak (f : ∀ a, F a → F' a) (h : Rp K F H v d) : Rp K F' H v d := h.mono (Same.refl H) fun a fa _ => f a fa
theorem RpA.weak (f : ∀ a, F a → F' a) (h : RpA K F H vs ds) : RpA K F' H vs ds := h.mono (Same.refl H) fun a fa _ => f a fa
theorem Rp.same (e : Same H H') (h : Rp K F H v d) : Rp K F H' v d := h.mono e fun a fa _ => fa
theorem RpA.same (e : Same H H') (h : RpA K F H vs ds) : RpA K F H' vs ds := h.mono e fun a fa _ => fa
/-- one thing stands for one datum -/
theorem Fz.inj_lst {ys : List V} (h : Fz K H a xs) (h' : H a = some (.lst ys)) : (∃ (o : Obj) (its : Array Value) (n : Nat), K.lookup a = some o ∧ o.cls = .type "list" ∧ o.dict = none ∧ o.data = .seq its n ∧ its.size ≤ sizeLine ∧ Vals xs its.toList) := by
  rcases h with ⟨o, h⟩ | h
  · rw [h] at h'; cases h'
  · exact h
end

/-! ### outcomes -/
structure Exn where
  cls : Str
  arg : Option Int
inductive O (α : Type) where
  | bad | ok (a : α) | ex (e : Exn)
def bnd {α β : Type} (x : O α) (f : α → O β) : O β := match x with
  | .bad => .bad
  | .ok a => f a
  | .ex e => .ex e
@[simp] theorem bnd_ok {α β : Type} (a : α) (f : α → O β) : bnd (.ok a) f = f a := rfl
@[simp] theorem bnd_bad {α β : Type} (f : α → O β) : bnd .bad f = .bad := rfl
@[simp] theorem bnd_ex {α β : Type} (e : Exn) (f : α → O β) : bnd (.ex e) f = .ex e := rfl

/-! ### kinds of slots, frames, states -/
inductive Ct where
  | l | dk | dt | la | ka
/-- an argument of one's own -/
def isArg : Ct → Bool
  | .la => true
  | .ka => true
  | _ => false
inductive Kd where
  | no | im (fr : Bool) | own (c : Ct) (fr : Bool)
structure Fm where
  H0 : Hp
  G : Addr → Prop
  Γ : List (List V × List Dt × Bool)
  P : List Addr
  A : Option Addr := none

def Ow (Δ : List Kd) (σ : St) (a : Addr) : Prop := ∃ (i : Nat) (c : Ct) (fr : Bool), Δ[i]? = some (Kd.own c fr) ∧ σ[i]? = some (some (V.ref a))
def FM (f : Fm) (Δ : List Kd) (σ : St) (av fr : Bool) (a : Addr) : Prop := (av = true → ¬ Ow Δ σ a ∧ a ∉ f.P) ∧ (fr = true → f.G a)

inductive KvA (K : PySem.W.Frag) (F : Addr → Prop) (H : Hp) : List (Key × V) → List (Dt × Dt) → Prop
  | nil : KvA K F H [] []
  | cons {k : Key} {v : V} {d : Dt} {kvs : List (Key × V)} {es : List (Dt × Dt)} : Rp K F H v d → KvA K F H kvs es → KvA K F H ((k, v) :: kvs) ((keyD k, d) :: es)
inductive KtA (K : PySem.W.Frag) (F : Addr → Prop) (H : Hp) : List (List Key × V) → List (Dt × Dt) → Prop
  | nil : KtA K F H [] []
  | cons {k : List Key} {v : V} {d : Dt} {kvs : List (List Key × V)} {es : List (Dt × Dt)} : Rp K F H v d → KtA K F H kvs es → KtA K F H ((k, v) :: kvs) ((.tuple (k.map keyD), d) :: es)
def OwC (K : PySem.W.Frag) (c : Ct) (F : Addr → Prop) (H : Hp) (p : Addr) (d : Dt) : Prop := match c with
  | .l => ∃ vs ds, d = .list ds ∧ H p = some (.lst vs) ∧ RpA K F H vs ds
  | .dk => ∃ kvs es, d = .dict es ∧ H p = some (.dK kvs) ∧ KvA K F H kvs es
  | .dt => ∃ kvs es, d = .dict es ∧ H p = some (.dT kvs) ∧ KtA K F H kvs es
  | .la => ∃ vs ds, d = .list ds ∧ H p = some (.lst vs) ∧ RpA K F H vs ds
  | .ka => ∃ kvs es, d = .dict es ∧ H p = some (.dK kvs) ∧ KvA K F H kvs es

section
variable {K : PySem.W.Frag} {F F' : Addr → Prop} {H H' : Hp} {p q : Addr} {d : Dt} {c : Ct}
theorem KvA.map {kvs es} (f : ∀ v d, Rp K F H v d → Rp K F' H' v d) : KvA K F H kvs es → KvA K F' H' kvs es
  | .nil => .nil
  | .cons h r => .cons (f _ _ h) (KvA.map f r)
theorem KtA.map {kvs es} (f : ∀ v d, Rp K F H v d → Rp K F' H' v d) : KtA K F H kvs es → KtA K F' H' kvs es
  | .nil => .nil
  | .cons h r => .cons (f _ _ h) (KtA.map f r)
theorem RpA.map {vs ds} (f : ∀ v d, Rp K F H v d → Rp K F' H' v d) : RpA K F H vs ds → RpA K F' H' vs ds
  | .nil => .nil
  | .cons h r => .cons (f _ _ h) (RpA.map f r)
theorem OwC.map (hp : ∀ o, H p = some o → H' p = some o) (f : ∀ v d, Rp K F H v d → Rp K F' H' v d) (h : OwC K c F H p d) : OwC K c F' H' p d := by
  cases c with
  | l => obtain ⟨vs, ds, e, h1, h2⟩ := h; exact ⟨vs, ds, e, hp _ h1, h2.map f⟩
  | dk => obtain ⟨vs, ds, e, h1, h2⟩ := h; exact ⟨vs, ds, e, hp _ h1, h2.map f⟩
  | dt => obtain ⟨vs, ds, e, h1, h2⟩ := h; exact ⟨vs, ds, e, hp _ h1, h2.map f⟩
  | la => obtain ⟨vs, ds, e, h1, h2⟩ := h; exact ⟨vs, ds, e, hp _ h1, h2.map f⟩
  | ka => obtain ⟨vs, ds, e, h1, h2⟩ := h; exact ⟨vs, ds, e, hp _ h1, h2.map f⟩
theorem OwC.mutb (h : OwC K c F H p d) : ∃ o, H p = some o ∧ Mutb o := by
  cases c with
  | l => obtain ⟨vs, ds, e, h1, h2⟩ := h; exact ⟨_, h1, trivial⟩
  | dk => obtain ⟨vs, ds, e, h1, h2⟩ := h; exact ⟨_, h1, trivial⟩
  | dt => obtain ⟨vs, ds, e, h1, h2⟩ := h; exact ⟨_, h1, trivial⟩
  | la => obtain ⟨vs, ds, e, h1, h2⟩ := h; exact ⟨_, h1, trivial⟩
  | ka => obtain ⟨vs, ds, e, h1, h2⟩ := h; exact ⟨_, h1, trivial⟩
theorem OwC.there (h : OwC K c F H p d) : H p ≠ none := by
  obtain ⟨o, e, _⟩ := h.mutb
  rw [e]
  exact fun z => nomatch z
end

structure R (K : PySem.W.Frag) (f : Fm) (Δ : List Kd) (ρ : List Dt) (σ : St) (H : Hp) : Prop where
  ext : Same f.H0 H
  g0 : ∀ a, f.H0 a = none → f.G a
  lσ : σ.length = Δ.length
  lρ : ρ.length = Δ.length
  inj : ∀ (i j : Nat) (ci : Ct) (fi : Bool) (cj : Ct) (fj : Bool) (p : Addr), Δ[i]? = some (Kd.own ci fi) → Δ[j]? = some (Kd.own cj fj) → σ[i]? = some (some (V.ref p)) → σ[j]? = some (some (V.ref p)) → i = j
  pin : ∀ a ∈ f.P, (∃ o, H a = some o ∧ Mutb o) ∧ ¬ Ow Δ σ a
  gh : ∀ g ∈ f.Γ, RpA K (FM f Δ σ true g.2.2) H g.1 g.2.1
  im : ∀ (i : Nat) (fr : Bool), Δ[i]? = some (Kd.im fr) → ∃ v d, σ[i]? = some (some v) ∧ ρ[i]? = some d ∧ Rp K (FM f Δ σ true fr) H v d
  ow : ∀ (i : Nat) (c : Ct) (fr : Bool), Δ[i]? = some (Kd.own c fr) → ∃ p d, σ[i]? = some (some (V.ref p)) ∧ ρ[i]? = some d ∧ f.H0 p = none ∧ OwC K c (FM f Δ σ true fr) H p d
  ar : ∀ (i : Nat) (c : Ct) (fr : Bool), Δ[i]? = some (Kd.own c fr) → isArg c = true → ∃ p, f.A = some p ∧ σ[i]? = some (some (V.ref p))

section
variable {K : PySem.W.Frag} {f : Fm} {Δ : List Kd} {ρ : List Dt} {σ : St} {H H' : Hp} {v : V} {d : Dt} {i : Nat} {p : Addr}

theorem FM.weak {av fr av' fr' : Bool} (h1 : av' = true → av = true) (h2 : fr' = true → fr = true) {a : Addr} (h : FM f Δ σ av fr a) : FM f Δ σ av' fr' a := ⟨fun e => h.1 (h1 e), fun e => h.2 (h2 e)⟩

theorem R.mono (r : R K f Δ ρ σ H) (e : Same H H') : R K f Δ ρ σ H' where
  ext := r.ext.trans e
  g0 := r.g0
  lσ := r.lσ
  lρ := r.lρ
  inj := r.inj
  pin := fun a ha => let ⟨⟨o, h1, h2⟩, h3⟩ := r.pin a ha; ⟨⟨o, e _ _ h1, h2⟩, h3⟩
  gh := fun g hg => (r.gh g hg).same e
  im := fun i fr h => let ⟨v, d, h1, h2, h3⟩ := r.im i fr h; ⟨v, d, h1, h2, h3.same e⟩
  ow := fun i c fr h => let ⟨p, d, h1, h2, h3, h4⟩ := r.ow i c fr h; ⟨p, d, h1, h2, h3, h4.map (fun o => e p o) fun _ _ q => q.same e⟩
  ar := r.ar

theorem R.owOf (r : R K f Δ ρ σ H) {a : Addr} (h : Ow Δ σ a) : (∃ o, H a = some o ∧ Mutb o) ∧ f.H0 a = none := by
  obtain ⟨i, c, fr, h1, h2⟩ := h
  obtain ⟨p, d, e1, _, e3, e4⟩ := r.ow i c fr h1
  rw [h2] at e1
  cases e1
  exact ⟨e4.mutb, e3⟩
theorem R.fresh (r : R K f Δ ρ σ H) (h : H p = none) : ¬ Ow Δ σ p ∧ p ∉ f.P ∧ f.H0 p = none := by
  refine ⟨fun z => ?_, fun z => ?_, ?_⟩
  · obtain ⟨⟨o, e, _⟩, _⟩ := r.owOf z
    rw [h] at e; cases e
  · obtain ⟨⟨o, e, _⟩, _⟩ := r.pin p z
    rw [h] at e; cases e
  · cases q : f.H0 p with
    | none => rfl
    | some o => rw [r.ext p o q] at h; cases h

/-- an update at a place that no datum reaches (an owned one's content, or a pinned one) -/
theorem R.updAt {o o' : HO} (r : R K f Δ ρ σ H) (hp : H p = some o) (m : Mutb o) (m' : Mutb o') (h0 : f.H0 p = none) (no : ¬ Ow Δ σ p) (hP : p ∈ f.P) : R K f Δ ρ σ (upd H p o') := by
  have key : ∀ {fr : Bool} {v : V} {d : Dt}, Rp K (FM f Δ σ true fr) H v d → Rp K (FM f Δ σ true fr) (upd H p o') v d := fun h =>
    h.updM hp m fun a fa z => (fa.1 rfl).2 (z ▸ hP)
  refine ⟨fun b u e => ?_, r.g0, r.lσ, r.lρ, r.inj, fun a ha => ⟨?_, (r.pin a ha).2⟩, fun g hg => (r.gh g hg).map fun _ _ x => key x, fun i fr h => ?_, fun i c fr h => ?_, r.ar⟩
  · have : b ≠ p := fun z => by subst z; rw [h0] at e; cases e
    rw [upd_ne this]
    exact r.ext b u e
  · by_cases z : a = p
    · subst z
      exact ⟨o', upd_same, m'⟩
    · rw [upd_ne z]
      exact (r.pin a ha).1
  · obtain ⟨v, d, h1, h2, h3⟩ := r.im i fr h
    exact ⟨v, d, h1, h2, key h3⟩
  · obtain ⟨q, d, h1, h2, h3, h4⟩ := r.ow i c fr h
    have nq : q ≠ p := fun z => no ⟨i, c, fr, h, z ▸ h1⟩
    exact ⟨q, d, h1, h2, h3, h4.map (fun u e => by rw [upd_ne nq]; exact e) fun _ _ x => key x⟩

/-- an owned object's content is replaced -/
theorem R.updOwn {o' : HO} {c : Ct} {fr : Bool} (r : R K f Δ ρ σ H) (hk : Δ[i]? = some (Kd.own c fr)) (hs : σ[i]? = some (some (V.ref p)))
    {fr' : Bool} (m' : Mutb o') {c' : Ct} (new : OwC K c' (FM f Δ σ true fr') (upd H p o') p d) (hc : isArg c' = true → isArg c = true := by intro h; first | exact h | cases h) : R K f (Δ.set i (.own c' fr')) (ρ.set i d) σ (upd H p o') := by
  obtain ⟨p', d', e1, e2, e3, e4⟩ := r.ow i c fr hk
  rw [hs] at e1
  cases e1
  obtain ⟨o, ho, mo⟩ := e4.mutb
  have hi : i < Δ.length := (List.getElem?_eq_some_iff.mp hk).1
  have owp : Ow Δ σ p := ⟨i, c, fr, hk, hs⟩
  have ow' : ∀ a, Ow (Δ.set i (.own c' fr')) σ a ↔ Ow Δ σ a := fun a => by
    constructor
    · rintro ⟨j, cj, fj, h1, h2⟩
      by_cases z : i = j
      · subst z
        rw [hs] at h2
        cases h2
        exact owp
      · rw [List.getElem?_set_ne z] at h1
        exact ⟨j, cj, fj, h1, h2⟩
    · rintro ⟨j, cj, fj, h1, h2⟩
      by_cases z : i = j
      · subst z
        exact ⟨i, c', fr', by rw [List.getElem?_set_self hi], h2⟩
      · exact ⟨j, cj, fj, by rw [List.getElem?_set_ne z]; exact h1, h2⟩
  have key : ∀ {fr : Bool} {v : V} {d : Dt}, Rp K (FM f Δ σ true fr) H v d → Rp K (FM f (Δ.set i (.own c' fr')) σ true fr) (upd H p o') v d := fun h =>
    (h.updM ho mo fun a fa z => (fa.1 rfl).1 (z ▸ owp)).weak fun a fa => ⟨fun _ => ⟨fun z => (fa.1 rfl).1 ((ow' a).mp z), (fa.1 rfl).2⟩, fa.2⟩
  have key2 : ∀ {fr : Bool} {v : V} {d : Dt}, Rp K (FM f Δ σ true fr) (upd H p o') v d → Rp K (FM f (Δ.set i (.own c' fr')) σ true fr) (upd H p o') v d := fun h =>
    h.weak fun a fa => ⟨fun _ => ⟨fun z => (fa.1 rfl).1 ((ow' a).mp z), (fa.1 rfl).2⟩, fa.2⟩
  refine ⟨fun b u e => ?_, r.g0, by rw [List.length_set]; exact r.lσ, by rw [List.length_set, List.length_set]; exact r.lρ, ?_, fun a ha => ?_, fun g hg => (r.gh g hg).map fun _ _ x => key x, fun j fj h => ?_, fun j cj fj h => ?_, fun j cj fj h ha => ?_⟩
  · have : b ≠ p := fun z => by subst z; rw [e3] at e; cases e
    rw [upd_ne this]
    exact r.ext b u e
  · intro j k cj fj ck fk q h1 h2 h3 h4
    have g : ∀ {j : Nat} {cj : Ct} {fj : Bool}, (Δ.set i (Kd.own c' fr'))[j]? = some (Kd.own cj fj) → ∃ (cj : Ct) (fj : Bool), Δ[j]? = some (Kd.own cj fj) := fun {j cj fj} h => by
      by_cases z : i = j
      · subst z; exact ⟨_, _, hk⟩
      · rw [List.getElem?_set_ne z] at h; exact ⟨_, _, h⟩
    obtain ⟨_, _, g1⟩ := g h1
    obtain ⟨_, _, g2⟩ := g h2
    exact r.inj j k _ _ _ _ q g1 g2 h3 h4
  · obtain ⟨⟨u, hu, mu⟩, no⟩ := r.pin a ha
    have na : a ≠ p := fun z => no (z ▸ owp)
    exact ⟨⟨u, by rw [upd_ne na]; exact hu, mu⟩, fun z => no ((ow' a).mp z)⟩
  · by_cases z : i = j
    · subst z
      rw [List.getElem?_set_self hi] at h
      cases h
    · rw [List.getElem?_set_ne z] at h
      obtain ⟨v, d, h1, h2, h3⟩ := r.im j fj h
      exact ⟨v, d, h1, by rw [List.getElem?_set_ne z]; exact h2, key h3⟩
  · by_cases z : i = j
    · subst z
      rw [List.getElem?_set_self hi] at h
      cases h
      exact ⟨p, d, hs, by rw [List.getElem?_set_self (by rw [r.lρ]; exact hi)], e3, new.map (fun o e => e) fun _ _ x => key2 x⟩
    · rw [List.getElem?_set_ne z] at h
      obtain ⟨q, d, h1, h2, h3, h4⟩ := r.ow j cj fj h
      have nq : q ≠ p := fun y => z (r.inj i j _ _ _ _ p hk h hs (y ▸ h1))
      exact ⟨q, d, h1, by rw [List.getElem?_set_ne z]; exact h2, h3, h4.map (fun u e => by rw [upd_ne nq]; exact e) fun _ _ x => key x⟩
  · by_cases z : i = j
    · subst z
      rw [List.getElem?_set_self hi] at h
      cases h
      exact r.ar i c fr hk (hc ha)
    · rw [List.getElem?_set_ne z] at h
      exact r.ar j cj fj h ha

/-- slot i gets a value; or is forgotten -/
theorem R.setIm {fr : Bool} (r : R K f Δ ρ σ H) (hi : i < Δ.length) (h : Rp K (FM f Δ σ true fr) H v d) : R K f (Δ.set i (.im fr)) (ρ.set i d) (σ.set i (some v)) H := by
  have ow' : ∀ a, Ow (Δ.set i (.im fr)) (σ.set i (some v)) a → Ow Δ σ a := fun a => by
    rintro ⟨j, cj, fj, h1, h2⟩
    by_cases z : i = j
    · subst z
      rw [List.getElem?_set_self hi] at h1
      cases h1
    · rw [List.getElem?_set_ne z] at h1 h2
      exact ⟨j, cj, fj, h1, h2⟩
  have key : ∀ {fr' : Bool} {v' : V} {d' : Dt}, Rp K (FM f Δ σ true fr') H v' d' → Rp K (FM f (Δ.set i (.im fr)) (σ.set i (some v)) true fr') H v' d' := fun h =>
    h.weak fun a fa => ⟨fun _ => ⟨fun z => (fa.1 rfl).1 (ow' a z), (fa.1 rfl).2⟩, fa.2⟩
  refine ⟨r.ext, r.g0, by rw [List.length_set, List.length_set]; exact r.lσ, by rw [List.length_set, List.length_set]; exact r.lρ, ?_, fun a ha => ⟨(r.pin a ha).1, fun z => (r.pin a ha).2 (ow' a z)⟩, fun g hg => (r.gh g hg).map fun _ _ x => key x, fun j fj h' => ?_, fun j cj fj h' => ?_, fun j cj fj h' ha => ?_⟩
  · intro j k cj fj ck fk q h1 h2 h3 h4
    have g : ∀ {j : Nat} {cj : Ct} {fj : Bool}, (Δ.set i (Kd.im fr))[j]? = some (Kd.own cj fj) → i ≠ j ∧ Δ[j]? = some (Kd.own cj fj) := fun {j cj fj} h => by
      by_cases z : i = j
      · subst z; rw [List.getElem?_set_self hi] at h; cases h
      · rw [List.getElem?_set_ne z] at h; exact ⟨z, h⟩
    obtain ⟨z1, g1⟩ := g h1
    obtain ⟨z2, g2⟩ := g h2
    rw [List.getElem?_set_ne z1] at h3
    rw [List.getElem?_set_ne z2] at h4
    exact r.inj j k _ _ _ _ q g1 g2 h3 h4
  · by_cases z : i = j
    · subst z
      rw [List.getElem?_set_self hi] at h'
      cases h'
      exact ⟨v, d, by rw [List.getElem?_set_self (by rw [r.lσ]; exact hi)], by rw [List.getElem?_set_self (by rw [r.lρ]; exact hi)], key h⟩
    · rw [List.getElem?_set_ne z] at h'
      obtain ⟨v', d', h1, h2, h3⟩ := r.im j fj h'
      exact ⟨v', d', by rw [List.getElem?_set_ne z]; exact h1, by rw [List.getElem?_set_ne z]; exact h2, key h3⟩
  · by_cases z : i = j
    · subst z
      rw [List.getElem?_set_self hi] at h'
      cases h'
    · rw [List.getElem?_set_ne z] at h'
      obtain ⟨q, d', h1, h2, h3, h4⟩ := r.ow j cj fj h'
      exact ⟨q, d', by rw [List.getElem?_set_ne z]; exact h1, by rw [List.getElem?_set_ne z]; exact h2, h3, h4.map (fun u e => e) fun _ _ x => key x⟩
  · by_cases z : i = j
    · subst z
      rw [List.getElem?_set_self hi] at h'
      cases h'
    · rw [List.getElem?_set_ne z] at h'
      obtain ⟨p, h1, h2⟩ := r.ar j cj fj h' ha
      exact ⟨p, h1, by rw [List.getElem?_set_ne z]; exact h2⟩

/-- slot i gets a new object of its own -/
theorem R.setOwn {c : Ct} {fr : Bool} (r0 : R K f Δ ρ σ H) (hi : i < Δ.length) (hp : H p = none) (e : Same H H') (h : OwC K c (fun a => FM f Δ σ true fr a ∧ a ≠ p) H' p d) (hc : isArg c = false := by rfl) :
    R K f (Δ.set i (.own c fr)) (ρ.set i d) (σ.set i (some (.ref p))) H' := by
  have r := r0.mono e
  obtain ⟨f1, f2, f3⟩ := r0.fresh hp
  have ow' : ∀ a, Ow (Δ.set i (.own c fr)) (σ.set i (some (.ref p))) a → Ow Δ σ a ∨ a = p := fun a => by
    rintro ⟨j, cj, fj, h1, h2⟩
    by_cases z : i = j
    · subst z
      rw [List.getElem?_set_self (by rw [r.lσ]; exact hi)] at h2
      cases h2
      exact .inr rfl
    · rw [List.getElem?_set_ne z] at h1 h2
      exact .inl ⟨j, cj, fj, h1, h2⟩
  have key : ∀ {fr' : Bool} {v' : V} {d' : Dt}, Rp K (FM f Δ σ true fr') H v' d' → Rp K (FM f (Δ.set i (.own c fr)) (σ.set i (some (.ref p))) true fr') H' v' d' := fun h =>
    h.mono e fun a fa na => ⟨fun _ => ⟨fun z => by
      rcases ow' a z with z | z
      · exact (fa.1 rfl).1 z
      · exact na (z ▸ hp), (fa.1 rfl).2⟩, fa.2⟩
  have keyN : ∀ {fr' : Bool} {v' : V} {d' : Dt}, Rp K (fun a => FM f Δ σ true fr' a ∧ a ≠ p) H' v' d' → Rp K (FM f (Δ.set i (.own c fr)) (σ.set i (some (.ref p))) true fr') H' v' d' := fun h =>
    h.weak fun a fa => ⟨fun _ => ⟨fun z => by
      rcases ow' a z with z | z
      · exact (fa.1.1 rfl).1 z
      · exact fa.2 z, (fa.1.1 rfl).2⟩, fa.1.2⟩
  refine ⟨r.ext, r.g0, by rw [List.length_set, List.length_set]; exact r.lσ, by rw [List.length_set, List.length_set]; exact r.lρ, ?_, fun a ha => ⟨(r.pin a ha).1, fun z => ?_⟩, fun g hg => (r0.gh g hg).map fun _ _ x => key x, fun j fj h' => ?_, fun j cj fj h' => ?_, fun j cj fj h' ha => ?_⟩
  · have g : ∀ {j : Nat} {cj : Ct} {fj : Bool} {q : Addr}, (Δ.set i (Kd.own c fr))[j]? = some (Kd.own cj fj) → (σ.set i (some (V.ref p)))[j]? = some (some (V.ref q)) → (i = j ∧ q = p) ∨ (i ≠ j ∧ Δ[j]? = some (Kd.own cj fj) ∧ σ[j]? = some (some (V.ref q)) ∧ q ≠ p) := fun {j cj fj q} h h2 => by
      by_cases z : i = j
      · subst z
        rw [List.getElem?_set_self (by rw [r.lσ]; exact hi)] at h2
        cases h2
        exact .inl ⟨rfl, rfl⟩
      · rw [List.getElem?_set_ne z] at h h2
        exact .inr ⟨z, h, h2, fun y => f1 ⟨j, cj, fj, h, y ▸ h2⟩⟩
    intro j k cj fj ck fk q h1 h2 h3 h4
    rcases g h1 h3 with ⟨a1, b1⟩ | ⟨a1, b1, c1, d1⟩
    · rcases g h2 h4 with ⟨a2, b2⟩ | ⟨a2, b2, c2, d2⟩
      · exact a1 ▸ a2
      · exact (d2 b1).elim
    · rcases g h2 h4 with ⟨a2, b2⟩ | ⟨a2, b2, c2, d2⟩
      · exact (d1 b2).elim
      · exact r.inj j k _ _ _ _ q b1 b2 c1 c2
  · rcases ow' a z with z | z
    · exact (r0.pin a ha).2 z
    · exact f2 (z ▸ ha)
  · by_cases z : i = j
    · subst z
      rw [List.getElem?_set_self hi] at h'
      cases h'
    · rw [List.getElem?_set_ne z] at h'
      obtain ⟨v', d', h1, h2, h3⟩ := r0.im j fj h'
      exact ⟨v', d', by rw [List.getElem?_set_ne z]; exact h1, by rw [List.getElem?_set_ne z]; exact h2, key h3⟩
  · by_cases z : i = j
    · subst z
      rw [List.getElem?_set_self hi] at h'
      cases h'
      exact ⟨p, d, by rw [List.getElem?_set_self (by rw [r.lσ]; exact hi)], by rw [List.getElem?_set_self (by rw [r.lρ]; exact hi)], f3, h.map (fun o e => e) fun _ _ x => keyN x⟩
    · rw [List.getElem?_set_ne z] at h'
      obtain ⟨q, d', h1, h2, h3, h4⟩ := r0.ow j cj fj h'
      exact ⟨q, d', by rw [List.getElem?_set_ne z]; exact h1, by rw [List.getElem?_set_ne z]; exact h2, h3, h4.map (fun u x => e _ _ x) fun _ _ x => key x⟩
  · by_cases z : i = j
    · subst z
      rw [List.getElem?_set_self hi] at h'
      cases h'
      rw [hc] at ha
      cases ha
    · rw [List.getElem?_set_ne z] at h'
      obtain ⟨p, h1, h2⟩ := r0.ar j cj fj h' ha
      exact ⟨p, h1, by rw [List.getElem?_set_ne z]; exact h2⟩
end
end Sim
end T_SimA

section T_SimB
set_option Elab.async false
set_option linter.all false
set_option maxRecDepth 100000
/-! SimB: expressions. -/
namespace Sim
open PySem PySem.Spec L2
open PyProof.Rows hiding St

abbrev Wt := Exn → L2.St → Hp → Prop
abbrev Gd := List Dt → O Dt
inductive Rk where
  | v (av fr : Bool) | o (fr : Bool) | new (c : Ct) (fr : Bool)

def PoE (K : PySem.W.Frag) (W : Wt) (f : Fm) (Δ : List Kd) (σ : L2.St) (H : Hp) (k : Rk) (o : O Dt) (Q : VK) : Prop := match o with
  | .bad => False
  | .ex e => ∀ H', Same H H' → W e σ H'
  | .ok d => match k with
    | .v av fr => ∀ v H', Same H H' → Rp K (FM f Δ σ av fr) H' v d → Q v H'
    | .o fr => ∀ p H' vs ds, d = .list ds → Same H H' → H' p = some (.lst vs) → f.G p → RpA K (FM f Δ σ true fr) H' vs ds → Q (.ref p) H'
    | .new c fr => ∀ p H', H p = none → Same H H' → OwC K c (fun a => FM f Δ σ true fr a ∧ a ≠ p) H' p d → Q (.ref p) H'
def SE (K : PySem.W.Frag) (W : Wt) (Δ : List Kd) (te : TE) (k : Rk) (g : Gd) : Prop := ∀ f ρ σ H Q, R K f Δ ρ σ H → PoE K W f Δ σ H k (g ρ) Q → te σ H Q
def PoT (W : Wt) (σ : L2.St) (H : Hp) (o : O Bool) (Q : Bool → Hp → Prop) : Prop := match o with
  | .bad => False
  | .ex e => ∀ H', Same H H' → W e σ H'
  | .ok b => ∀ H', Same H H' → Q b H'
def ST (K : PySem.W.Frag) (W : Wt) (Δ : List Kd) (tt : TT) (g : List Dt → O Bool) : Prop := ∀ f ρ σ H Q, R K f Δ ρ σ H → PoT W σ H (g ρ) Q → tt σ H Q
def PoA (K : PySem.W.Frag) (W : Wt) (f : Fm) (Δ : List Kd) (σ : L2.St) (H : Hp) (av fr : Bool) (o : O (List Dt)) (Q : List V → Hp → Prop) : Prop := match o with
  | .bad => False
  | .ex e => ∀ H', Same H H' → W e σ H'
  | .ok ds => ∀ vs H', Same H H' → RpA K (FM f Δ σ av fr) H' vs ds → Q vs H'
def SA (K : PySem.W.Frag) (W : Wt) (Δ : List Kd) (ta : TA) (av fr : Bool) (g : List Dt → O (List Dt)) : Prop := ∀ f ρ σ H Q, R K f Δ ρ σ H → PoA K W f Δ σ H av fr (g ρ) Q → ta σ H Q

/-! ### the closures -/
def gVar (i : Nat) : Gd := fun ρ => match ρ[i]? with
  | some d => .ok d
  | none => .bad
def gC (d : Dt) : Gd := fun _ => .ok d
def gOp (h : Dt → Dt → O Dt) (a b : Gd) : Gd := fun ρ => bnd (a ρ) fun x => bnd (b ρ) fun y => h x y
def gUn (h : Dt → O Dt) (a : Gd) : Gd := fun ρ => bnd (a ρ) h
def gNil : List Dt → O (List Dt) := fun _ => .ok []
def gCons (a : Gd) (b : List Dt → O (List Dt)) : List Dt → O (List Dt) := fun ρ => bnd (a ρ) fun x => bnd (b ρ) fun xs => .ok (x :: xs)
def gTup (a : List Dt → O (List Dt)) : Gd := fun ρ => bnd (a ρ) fun xs => if xs.length ≤ 100000 then .ok (.tuple xs) else .bad
def gLst (a : List Dt → O (List Dt)) : Gd := fun ρ => bnd (a ρ) fun xs => if xs.length ≤ 100000 then .ok (.list xs) else .bad
def gPur (a : Gd) : Gd := fun ρ => bnd (a ρ) fun d => if pure1 d then .ok d else .bad
def pureIn : Dt → Bool
  | .list xs => pureA xs
  | d => pure1 d
def gPurN (a : Gd) : Gd := fun ρ => bnd (a ρ) fun d => if pureIn d then .ok d else .bad
def gIf (t : List Dt → O Bool) (a b : Gd) : Gd := fun ρ => bnd (t ρ) fun c => if c then a ρ else b ρ
def asB : Dt → O Bool
  | .bool b => .ok b
  | _ => .bad
def gTest (a : Gd) : List Dt → O Bool := fun ρ => bnd (a ρ) asB
def gNot (t : List Dt → O Bool) : List Dt → O Bool := fun ρ => bnd (t ρ) fun b => .ok (!b)
def gAnd (t u : List Dt → O Bool) : List Dt → O Bool := fun ρ => bnd (t ρ) fun b => if b then u ρ else .ok false
def gOr (t u : List Dt → O Bool) : List Dt → O Bool := fun ρ => bnd (t ρ) fun b => if b then .ok true else u ρ
def gAndV (a b : Gd) : Gd := fun ρ => bnd (a ρ) fun x => bnd (asB x) fun c => if c then b ρ else .ok (.bool false)
def gOrV (a b : Gd) : Gd := fun ρ => bnd (a ρ) fun x => bnd (asB x) fun c => if c then .ok (.bool true) else b ρ
def gNotV (a : Gd) : Gd := fun ρ => bnd (a ρ) fun x => bnd (asB x) fun c => .ok (.bool (!c))
def gCB (h : List Dt → O Dt) (a : List Dt → O (List Dt)) : Gd := fun ρ => bnd (a ρ) h
/-- scalars -/
def scl : Dt → Bool
  | .none => true
  | .bool _ => true
  | .int _ => true
  | .str _ => true
  | _ => false

section
variable {K : PySem.W.Frag} {W : Wt} {Δ : List Kd} {ta tb te : TE} {tt tu : TT} {tA tB' : TA} {ga gb g : Gd} {gt gu : List Dt → O Bool} {gA : List Dt → O (List Dt)} {k k1 k2 : Rk} {av fr av' fr' : Bool}

theorem Rp.scl_any {F F' : Addr → Prop} {H H' : Hp} {v : V} {d : Dt} (h : Rp K F H v d) (s : scl d = true) : Rp K F' H' v d := by
  cases h with
  | non => exact .non
  | bl b => exact .bl b
  | int i => exact .int i
  | str x => exact .str x
  | lst => cases s
  | fz => cases s
  | tup => cases s
  | dic => cases s
  | exn => cases s

/-! ### names and constants -/
theorem se_var {i : Nat} (hk : Δ[i]? = some (.im fr)) : SE K W Δ (tVar i) (.v true fr) (gVar i) := fun f ρ σ H Q r q => by
  obtain ⟨v, d, h1, h2, h3⟩ := r.im i fr hk
  unfold gVar at q
  rw [h2] at q
  exact ⟨v, h1, q v H (Same.refl H) h3⟩
theorem se_own {i : Nat} (hk : Δ[i]? = some (.own .l fr)) : SE K W Δ (tVar i) (.o fr) (gVar i) := fun f ρ σ H Q r q => by
  obtain ⟨p, d, h1, h2, h3, vs, ds, e, h4, h5⟩ := r.ow i .l fr hk
  subst e
  unfold gVar at q
  rw [h2] at q
  exact ⟨_, h1, q p H vs ds rfl (Same.refl H) h4 (r.g0 p h3) h5⟩
theorem se_c {v : V} {d : Dt} (h : Rp K (fun _ => False) (fun _ => none) v d) (s : scl d = true) : SE K W Δ (tC v) (.v true true) (gC d) := fun f ρ σ H Q r q =>
  q v H (Same.refl H) (h.scl_any s)
theorem se_int {i : Int} : SE K W Δ (tC (.int i)) (.v true true) (gC (.int i)) := se_c (.int i) rfl
theorem se_str {x : Str} : SE K W Δ (tC (.str x)) (.v true true) (gC (.str x)) := se_c (.str x) rfl
theorem se_bl {b : Bool} : SE K W Δ (tC (.bl b)) (.v true true) (gC (.bool b)) := se_c (.bl b) rfl
theorem se_non : SE K W Δ (tC .non) (.v true true) (gC .none) := se_c .non rfl

/-! ### weakening -/
theorem Rp.fm {f : Fm} {σ : L2.St} {H : Hp} {v : V} {d : Dt} (h1 : av' = true → av = true) (h2 : fr' = true → fr = true) (h : Rp K (FM f Δ σ av fr) H v d) : Rp K (FM f Δ σ av' fr') H v d := h.weak fun _ x => x.weak h1 h2
theorem SE.wk (h : SE K W Δ te (.v av fr) g) (h1 : av' = true → av = true := by decide) (h2 : fr' = true → fr = true := by decide) : SE K W Δ te (.v av' fr') g := fun f ρ σ H Q r q =>
  h f ρ σ H Q r <| by
    cases e : g ρ with
    | bad => rw [e] at q; exact q
    | ex z => rw [e] at q; exact q
    | ok d => rw [e] at q; exact fun v H' s x => q v H' s (x.fm h1 h2)
theorem SE.ov (h : SE K W Δ te (.o fr) g) : SE K W Δ te (.v false fr) g := fun f ρ σ H Q r q =>
  h f ρ σ H Q r <| by
    cases e : g ρ with
    | bad => rw [e] at q; exact q
    | ex z => rw [e] at q; exact q
    | ok d =>
      rw [e] at q
      intro p H' vs ds ed s hp gp x
      subst ed
      exact q _ H' s (.lst hp ⟨(nomatch ·), fun _ => gp⟩ (x.weak fun _ y => y.weak (fun _ => rfl) id))
theorem SE.nv (h : SE K W Δ te (.new .l fr) g) : SE K W Δ te (.v true fr) g := fun f ρ σ H Q r q =>
  h f ρ σ H Q r <| by
    cases e : g ρ with
    | bad => rw [e] at q; exact q
    | ex z => rw [e] at q; exact q
    | ok d =>
      rw [e] at q
      intro p H' np s x
      obtain ⟨vs, ds, ed, hp, x⟩ := x
      subst ed
      obtain ⟨f1, f2, f3⟩ := r.fresh np
      exact q _ H' s (.lst hp ⟨fun _ => ⟨f1, f2⟩, fun _ => r.g0 p f3⟩ (x.weak fun _ y => y.1))
theorem SE.no (h : SE K W Δ te (.new .l fr) g) : SE K W Δ te (.o fr) g := fun f ρ σ H Q r q =>
  h f ρ σ H Q r <| by
    cases e : g ρ with
    | bad => rw [e] at q; exact q
    | ex z => rw [e] at q; exact q
    | ok d =>
      rw [e] at q
      intro p H' np s x
      obtain ⟨vs, ds, ed, hp, x⟩ := x
      subst ed
      obtain ⟨f1, f2, f3⟩ := r.fresh np
      exact q _ H' vs ds rfl s hp (r.g0 p f3) (x.weak fun _ y => y.1)
theorem SE.pur (h : SE K W Δ te (.v av fr) g) : SE K W Δ te (.v true true) (gPur g) := fun f ρ σ H Q r q =>
  h f ρ σ H Q r <| by
    unfold gPur at q
    cases e : g ρ with
    | bad => rw [e] at q; exact q
    | ex z => rw [e] at q; exact q
    | ok d =>
      rw [e, bnd_ok] at q
      intro v H' s x
      by_cases p : pure1 d = true
      · rw [if_pos p] at q
        exact q v H' s (x.pure p)
      · rw [if_neg p] at q
        exact q.elim
theorem pureIn_list {ds : List Dt} : pureIn (.list ds) = pureA ds := rfl
theorem SE.purN (h : SE K W Δ te (.new .l fr) g) : SE K W Δ te (.new .l true) (gPurN g) := fun f ρ σ H Q r q =>
  h f ρ σ H Q r <| by
    unfold gPurN at q
    cases e : g ρ with
    | bad => rw [e] at q; exact q
    | ex z => rw [e] at q; exact q
    | ok d =>
      rw [e, bnd_ok] at q
      intro p H' np s x
      obtain ⟨vs, ds, ed, hp, x⟩ := x
      subst ed
      rw [pureIn_list] at q
      by_cases pp : pureA ds = true
      · rw [if_pos pp] at q
        exact q p H' np s ⟨vs, ds, rfl, hp, x.pure pp⟩
      · rw [if_neg pp] at q
        exact q.elim
theorem SE.purO (h : SE K W Δ te (.o fr) g) : SE K W Δ te (.o true) (gPurN g) := fun f ρ σ H Q r q =>
  h f ρ σ H Q r <| by
    unfold gPurN at q
    cases e : g ρ with
    | bad => rw [e] at q; exact q
    | ex z => rw [e] at q; exact q
    | ok d =>
      rw [e, bnd_ok] at q
      intro p H' vs ds ed s hp gp x
      subst ed
      rw [pureIn_list] at q
      by_cases pp : pureA ds = true
      · rw [if_pos pp] at q
        exact q p H' vs ds rfl s hp gp (x.pure pp)
      · rw [if_neg pp] at q
        exact q.elim

/-! ### operators on two, on one: the answer a scalar -/
def OSc (K : PySem.W.Frag) (r : R2) (h : Dt → Dt → O Dt) : Prop := ∀ H x y d e Q, Rp K (fun _ => True) H x d → Rp K (fun _ => True) H y e →
  (match h d e with | .ok z => scl z = true ∧ (∀ v, Rp K (fun _ => False) (fun _ => none) v z → Q v H) | _ => False) → r x y H Q
def USc (K : PySem.W.Frag) (r : V → Hp → VK → Prop) (h : Dt → O Dt) : Prop := ∀ H x d Q, Rp K (fun _ => True) H x d →
  (match h d with | .ok z => scl z = true ∧ (∀ v, Rp K (fun _ => False) (fun _ => none) v z → Q v H) | _ => False) → r x H Q
def CSc (K : PySem.W.Frag) (r : List V → Hp → VK → Prop) (h : List Dt → O Dt) : Prop := ∀ H xs ds Q, RpA K (fun _ => True) H xs ds →
  (match h ds with | .ok z => scl z = true ∧ (∀ v, Rp K (fun _ => False) (fun _ => none) v z → Q v H) | _ => False) → r xs H Q
/-- h gives scalars or nothing -/
def Scl2 (h : Dt → Dt → O Dt) : Prop := ∀ d e, (∃ z, h d e = .ok z ∧ scl z = true) ∨ h d e = .bad
def Scl1 (h : Dt → O Dt) : Prop := ∀ d, (∃ z, h d = .ok z ∧ scl z = true) ∨ h d = .bad
def SclA (h : List Dt → O Dt) : Prop := ∀ d, (∃ z, h d = .ok z ∧ scl z = true) ∨ h d = .bad

theorem se_op {r : R2} {h : Dt → Dt → O Dt} (hs : Scl2 h) (ho : OSc K r h) (ha : SE K W Δ ta (.v av fr) ga) (hb : SE K W Δ tb (.v av' fr') gb) : SE K W Δ (tOp r ta tb) (.v true true) (gOp h ga gb) := fun f ρ σ H Q R q => by
  refine ha f ρ σ H _ R ?_
  unfold gOp at q
  cases e1 : ga ρ with
  | bad => rw [e1] at q; exact q
  | ex z => rw [e1] at q; exact q
  | ok d =>
    rw [e1, bnd_ok] at q
    intro v H1 s1 x1
    refine hb f ρ σ H1 _ (R.mono s1) ?_
    cases e2 : gb ρ with
    | bad => rw [e2] at q; exact q
    | ex z => rw [e2] at q; exact fun H' s => q H' (s1.trans s)
    | ok d2 =>
      rw [e2, bnd_ok] at q
      intro v2 H2 s2 x2
      refine ho H2 v v2 d d2 Q ((x1.same s2).weak fun _ _ => trivial) (x2.weak fun _ _ => trivial) ?_
      rcases hs d d2 with ⟨z, ez, sz⟩ | ez
      · rw [ez] at q ⊢
        exact ⟨sz, fun w x => q w H2 (s1.trans s2) (x.scl_any sz)⟩
      · rw [ez] at q
        exact q.elim
theorem se_un {r : V → Hp → VK → Prop} {h : Dt → O Dt} (hs : Scl1 h) (ho : USc K r h) (ha : SE K W Δ ta (.v av fr) ga) : SE K W Δ (tUn r ta) (.v true true) (gUn h ga) := fun f ρ σ H Q R q => by
  refine ha f ρ σ H _ R ?_
  unfold gUn at q
  cases e1 : ga ρ with
  | bad => rw [e1] at q; exact q
  | ex z => rw [e1] at q; exact q
  | ok d =>
    rw [e1, bnd_ok] at q
    intro v H1 s1 x1
    refine ho H1 v d Q (x1.weak fun _ _ => trivial) ?_
    rcases hs d with ⟨z, ez, sz⟩ | ez
    · rw [ez] at q ⊢
      exact ⟨sz, fun w x => q w H1 s1 (x.scl_any sz)⟩
    · rw [ez] at q
      exact q.elim
theorem se_cb {r : List V → Hp → VK → Prop} {h : List Dt → O Dt} (hs : SclA h) (ho : CSc K r h) (ha : SA K W Δ tA av fr gA) : SE K W Δ (tCB r tA) (.v true true) (gCB h gA) := fun f ρ σ H Q R q => by
  refine ha f ρ σ H _ R ?_
  unfold gCB at q
  cases e1 : gA ρ with
  | bad => rw [e1] at q; exact q
  | ex z => rw [e1] at q; exact q
  | ok d =>
    rw [e1, bnd_ok] at q
    intro v H1 s1 x1
    refine ho H1 v d Q (x1.weak fun _ _ => trivial) ?_
    rcases hs d with ⟨z, ez, sz⟩ | ez
    · rw [ez] at q ⊢
      exact ⟨sz, fun w x => q w H1 s1 (x.scl_any sz)⟩
    · rw [ez] at q
      exact q.elim

/-! ### argument lists, tuples, lists -/
theorem sa_nil : SA K W Δ tNil true true gNil := fun f ρ σ H Q R q => q [] H (Same.refl H) .nil
theorem sa_cons (ha : SE K W Δ ta (.v av fr) ga) (hr : SA K W Δ tA av' fr' gA) : SA K W Δ (tCons ta tA) (av && av') (fr && fr') (gCons ga gA) := fun f ρ σ H Q R q => by
  refine ha f ρ σ H _ R ?_
  unfold gCons at q
  cases e1 : ga ρ with
  | bad => rw [e1] at q; exact q
  | ex z => rw [e1] at q; exact q
  | ok d =>
    rw [e1, bnd_ok] at q
    intro v H1 s1 x1
    refine hr f ρ σ H1 _ (R.mono s1) ?_
    cases e2 : gA ρ with
    | bad => rw [e2] at q; exact q
    | ex z => rw [e2] at q; exact fun H' s => q H' (s1.trans s)
    | ok ds =>
      rw [e2, bnd_ok] at q
      intro vs H2 s2 x2
      exact q (v :: vs) H2 (s1.trans s2) (.cons ((x1.same s2).fm (fun h => (Bool.and_eq_true_iff.mp h).1) fun h => (Bool.and_eq_true_iff.mp h).1)
        (x2.weak fun _ y => y.weak (fun h => (Bool.and_eq_true_iff.mp h).2) fun h => (Bool.and_eq_true_iff.mp h).2))
theorem SA.wk (h : SA K W Δ tA av fr gA) (h1 : av' = true → av = true := by decide) (h2 : fr' = true → fr = true := by decide) : SA K W Δ tA av' fr' gA := fun f ρ σ H Q R q =>
  h f ρ σ H Q R <| by
    cases e : gA ρ with
    | bad => rw [e] at q; exact q
    | ex z => rw [e] at q; exact q
    | ok d => rw [e] at q; exact fun v H' s x => q v H' s (x.weak fun _ y => y.weak h1 h2)
theorem sz_le {n : Nat} (h : n ≤ 100000) : n ≤ sizeLine := Nat.le_trans h (by decide)
theorem same_upd {H : Hp} {p : Addr} {o : HO} (h : H p = none) : Same H (upd H p o) := fun b x e => by
  rw [upd_ne (ne_of_none e h)]
  exact e
theorem se_tup (ha : SA K W Δ tA av fr gA) : SE K W Δ (tTup tA) (.v av fr) (gTup gA) := fun f ρ σ H Q R q => by
  refine ha f ρ σ H _ R ?_
  unfold gTup at q
  cases e1 : gA ρ with
  | bad => rw [e1] at q; exact q
  | ex z => rw [e1] at q; exact q
  | ok ds =>
    rw [e1, bnd_ok] at q
    intro vs H1 s1 x1
    by_cases l : ds.length ≤ 100000
    · rw [if_pos l] at q
      refine ⟨by rw [x1.length]; exact sz_le l, fun p np => ?_⟩
      exact q _ _ (s1.trans (same_upd np)) (.tup (.inl (.inl upd_same)) (x1.same (same_upd np)))
    · rw [if_neg l] at q
      exact q.elim
theorem se_lst (ha : SA K W Δ tA true fr gA) : SE K W Δ (tLst tA) (.new .l fr) (gLst gA) := fun f ρ σ H Q R q => by
  refine ha f ρ σ H _ R ?_
  unfold gLst at q
  cases e1 : gA ρ with
  | bad => rw [e1] at q; exact q
  | ex z => rw [e1] at q; exact q
  | ok ds =>
    rw [e1, bnd_ok] at q
    intro vs H1 s1 x1
    by_cases l : ds.length ≤ 100000
    · rw [if_pos l] at q
      refine ⟨by rw [x1.length]; exact sz_le l, fun p np => ?_⟩
      refine q p _ (s1.free np) (s1.trans (same_upd np)) ⟨vs, ds, rfl, upd_same, x1.mono (same_upd np) fun a y z => ⟨y, fun e => z (e ▸ np)⟩⟩
    · rw [if_neg l] at q
      exact q.elim
/-- a list display of anything, only looked at -/
theorem se_lstv (ha : SA K W Δ tA av fr gA) : SE K W Δ (tLst tA) (.v av fr) (gLst gA) := fun f ρ σ H Q R q => by
  refine ha f ρ σ H _ R ?_
  unfold gLst at q
  cases e1 : gA ρ with
  | bad => rw [e1] at q; exact q
  | ex z => rw [e1] at q; exact q
  | ok ds =>
    rw [e1, bnd_ok] at q
    intro vs H1 s1 x1
    by_cases l : ds.length ≤ 100000
    · rw [if_pos l] at q
      refine ⟨by rw [x1.length]; exact sz_le l, fun p np => ?_⟩
      obtain ⟨f1, f2, f3⟩ := R.fresh (s1.free np)
      exact q _ _ (s1.trans (same_upd np)) (.lst upd_same ⟨fun _ => ⟨f1, f2⟩, fun _ => R.g0 p f3⟩ (x1.same (same_upd np)))
    · rw [if_neg l] at q
      exact q.elim

/-! ### tests -/
theorem st_test (ha : SE K W Δ te (.v av fr) g) : ST K W Δ (tTest te) (gTest g) := fun f ρ σ H Q R q => by
  refine ha f ρ σ H _ R ?_
  unfold gTest at q
  cases e1 : g ρ with
  | bad => rw [e1] at q; exact q
  | ex z => rw [e1] at q; exact q
  | ok d =>
    rw [e1, bnd_ok] at q
    intro v H1 s1 x1
    cases x1 with
    | bl b => exact ⟨b, rfl, q H1 s1⟩
    | non => exact q.elim
    | int => exact q.elim
    | str => exact q.elim
    | lst => exact q.elim
    | fz => exact q.elim
    | tup => exact q.elim
    | dic => exact q.elim
    | exn => exact q.elim
theorem st_B (ha : SE K W Δ te (.v av fr) g) : ST K W Δ (tB te) (gTest g) := st_test ha
theorem st_not (h : ST K W Δ tt gt) : ST K W Δ (tNot tt) (gNot gt) := fun f ρ σ H Q R q => by
  refine h f ρ σ H _ R ?_
  unfold gNot at q
  cases e1 : gt ρ with
  | bad => rw [e1] at q; exact q
  | ex z => rw [e1] at q; exact q
  | ok d => rw [e1, bnd_ok] at q; exact q
theorem st_and (h : ST K W Δ tt gt) (h2 : ST K W Δ tu gu) : ST K W Δ (tAnd tt tu) (gAnd gt gu) := fun f ρ σ H Q R q => by
  refine h f ρ σ H _ R ?_
  unfold gAnd at q
  cases e1 : gt ρ with
  | bad => rw [e1] at q; exact q
  | ex z => rw [e1] at q; exact q
  | ok b =>
    rw [e1, bnd_ok] at q
    intro H1 s1
    cases b with
    | false => exact q H1 s1
    | true =>
      refine h2 f ρ σ H1 _ (R.mono s1) ?_
      have q : PoT W σ H (gu ρ) Q := q
      cases e2 : gu ρ with
      | bad => rw [e2] at q; exact q
      | ex z => rw [e2] at q; exact fun H' s => q H' (s1.trans s)
      | ok b => rw [e2] at q; exact fun H' s => q H' (s1.trans s)
theorem st_or (h : ST K W Δ tt gt) (h2 : ST K W Δ tu gu) : ST K W Δ (tOr tt tu) (gOr gt gu) := fun f ρ σ H Q R q => by
  refine h f ρ σ H _ R ?_
  unfold gOr at q
  cases e1 : gt ρ with
  | bad => rw [e1] at q; exact q
  | ex z => rw [e1] at q; exact q
  | ok b =>
    rw [e1, bnd_ok] at q
    intro H1 s1
    cases b with
    | true => exact q H1 s1
    | false =>
      refine h2 f ρ σ H1 _ (R.mono s1) ?_
      have q : PoT W σ H (gu ρ) Q := q
      cases e2 : gu ρ with
      | bad => rw [e2] at q; exact q
      | ex z => rw [e2] at q; exact fun H' s => q H' (s1.trans s)
      | ok b => rw [e2] at q; exact fun H' s => q H' (s1.trans s)
theorem PoE.mono {f : Fm} {σ : L2.St} {H H' : Hp} {o : O Dt} {Q : VK} (s : Same H H') (h : PoE K W f Δ σ H k o Q) : PoE K W f Δ σ H' k o Q := by
  cases o with
  | bad => exact h
  | ex z => exact fun H2 s2 => h H2 (s.trans s2)
  | ok d =>
    cases k with
    | v av fr => exact fun v H2 s2 => h v H2 (s.trans s2)
    | o fr => exact fun p H2 vs ds e s2 => h p H2 vs ds e (s.trans s2)
    | new c fr => exact fun p H2 np s2 => h p H2 (s.free np) (s.trans s2)
theorem se_if (h : ST K W Δ tt gt) (ha : SE K W Δ ta k ga) (hb : SE K W Δ tb k gb) : SE K W Δ (tIf tt ta tb) k (gIf gt ga gb) := fun f ρ σ H Q R q => by
  refine h f ρ σ H _ R ?_
  unfold gIf at q
  cases e1 : gt ρ with
  | bad => rw [e1] at q; exact q
  | ex z => rw [e1] at q; exact q
  | ok b =>
    rw [e1, bnd_ok] at q
    intro H1 s1
    cases b with
    | true => exact ha f ρ σ H1 Q (R.mono s1) (PoE.mono s1 q)
    | false => exact hb f ρ σ H1 Q (R.mono s1) (PoE.mono s1 q)
theorem se_andV (ha : SE K W Δ ta (.v av fr) ga) (hb : SE K W Δ tb (.v true true) gb) : SE K W Δ (tAndV ta tb) (.v true true) (gAndV ga gb) := fun f ρ σ H Q R q => by
  refine ha f ρ σ H _ R ?_
  unfold gAndV at q
  cases e1 : ga ρ with
  | bad => rw [e1] at q; exact q
  | ex z => rw [e1] at q; exact q
  | ok d =>
    rw [e1, bnd_ok] at q
    intro v H1 s1 x1
    cases x1 with
    | bl b =>
      refine ⟨b, rfl, ?_⟩
      cases b with
      | true => exact hb f ρ σ H1 Q (R.mono s1) (PoE.mono s1 q)
      | false => exact q _ H1 s1 (.bl false)
    | non => exact q.elim
    | int => exact q.elim
    | str => exact q.elim
    | lst => exact q.elim
    | fz => exact q.elim
    | tup => exact q.elim
    | dic => exact q.elim
    | exn => exact q.elim
theorem se_orV (ha : SE K W Δ ta (.v av fr) ga) (hb : SE K W Δ tb (.v true true) gb) : SE K W Δ (tOrV ta tb) (.v true true) (gOrV ga gb) := fun f ρ σ H Q R q => by
  refine ha f ρ σ H _ R ?_
  unfold gOrV at q
  cases e1 : ga ρ with
  | bad => rw [e1] at q; exact q
  | ex z => rw [e1] at q; exact q
  | ok d =>
    rw [e1, bnd_ok] at q
    intro v H1 s1 x1
    cases x1 with
    | bl b =>
      refine ⟨b, rfl, ?_⟩
      cases b with
      | true => exact q _ H1 s1 (.bl true)
      | false => exact hb f ρ σ H1 Q (R.mono s1) (PoE.mono s1 q)
    | non => exact q.elim
    | int => exact q.elim
    | str => exact q.elim
    | lst => exact q.elim
    | fz => exact q.elim
    | tup => exact q.elim
    | dic => exact q.elim
    | exn => exact q.elim
theorem se_notV (ha : SE K W Δ ta (.v av fr) ga) : SE K W Δ (tNotV ta) (.v true true) (gNotV ga) := fun f ρ σ H Q R q => by
  refine ha f ρ σ H _ R ?_
  unfold gNotV at q
  cases e1 : ga ρ with
  | bad => rw [e1] at q; exact q
  | ex z => rw [e1] at q; exact q
  | ok d =>
    rw [e1, bnd_ok] at q
    intro v H1 s1 x1
    cases x1 with
    | bl b => exact ⟨b, rfl, q _ H1 s1 (.bl _)⟩
    | non => exact q.elim
    | int => exact q.elim
    | str => exact q.elim
    | lst => exact q.elim
    | fz => exact q.elim
    | tup => exact q.elim
    | dic => exact q.elim
    | exn => exact q.elim
end
end Sim
end T_SimB

section T_SimC
set_option Elab.async false
set_option linter.all false
set_option maxRecDepth 100000
/-! SimC: the rules by which an expression of the text gets its closure. -/
namespace Sim
open PySem PySem.Spec L2
open PyProof.Rows hiding St

structure PD (X : Cx) (K : PySem.W.Frag) (W : Wt) (Δ : List Kd) (e : Expr) (te : TE) (k : Rk) (g : Gd) : Prop where
  pe : PE X e te
  hK : X.K = K
  se : SE K W Δ te k g
structure TD (X : Cx) (K : PySem.W.Frag) (W : Wt) (Δ : List Kd) (e : Expr) (tt : TT) (g : List Dt → O Bool) : Prop where
  pt : PT X e tt
  hK : X.K = K
  st : ST K W Δ tt g
structure WD (X : Cx) (K : PySem.W.Frag) (W : Wt) (Δ : List Kd) (e : Expr) (tt : TT) (g : List Dt → O Bool) : Prop where
  pw : PW X e tt
  hK : X.K = K
  st : ST K W Δ tt g
structure AD (X : Cx) (K : PySem.W.Frag) (W : Wt) (Δ : List Kd) (es : List Expr) (ta : TA) (av fr : Bool) (g : List Dt → O (List Dt)) : Prop where
  pa : PA X es ta
  hK : X.K = K
  sa : SA K W Δ ta av fr g

/-! ### the closures of operators -/
def hI0 (g : Int → Int → Int) : Dt → Dt → O Dt := fun d e => match d, e with
  | .int i, .int j => .ok (.int (g i j))
  | _, _ => .bad
def hI (C : Int → Int → Bool) (g : Int → Int → Int) : Dt → Dt → O Dt := fun d e => match d, e with
  | .int i, .int j => if C i j then .ok (.int (g i j)) else .bad
  | _, _ => .bad
def hB0 (p : Int → Int → Bool) : Dt → Dt → O Dt := fun d e => match d, e with
  | .int i, .int j => .ok (.bool (p i j))
  | _, _ => .bad
def hU (g : Int → Int) : Dt → O Dt := fun d => match d with
  | .int i => .ok (.int (g i))
  | _ => .bad
def hAdd := hI0 fun i j => i + j
def hSub := hI0 fun i j => i - j
def cMul (i j : Int) : Bool := decide (i.natAbs < 2 ^ 64) || decide (j.natAbs < 2 ^ 64)
def hMul := hI cMul fun i j => i * j
def cDiv (_ j : Int) : Bool := decide (0 < j) && decide (j.natAbs < 2 ^ 400)
def hDiv := hI cDiv fun i j => i / j
def cMod (_ j : Int) : Bool := decide (0 < j)
def hMod := hI cMod fun i j => i % j
def cPow (i j : Int) : Bool := decide (0 ≤ j) && decide (j ≤ 1000000) && decide (i.natAbs < 2 ^ 64)
def hPow := hI cPow fun i j => i ^ j.toNat
def cShr (_ j : Int) : Bool := decide (0 ≤ j)
def hShr := hI cShr fun i j => i / 2 ^ j.toNat
def hBand := hI0 fun i j => Builtin.bitAnd i j
def hLt := hB0 fun i j => decide (i < j)
def hLe := hB0 fun i j => decide (i ≤ j)
def hGt := hB0 fun i j => decide (j < i)
def hGe := hB0 fun i j => decide (j ≤ i)
def hEq : Dt → Dt → O Dt := fun d e => if SeqAt.shaped d && SeqAt.shaped e then .ok (.bool (PyData.eqv d e)) else .bad
def hNe : Dt → Dt → O Dt := fun d e => if SeqAt.shaped d && SeqAt.shaped e then .ok (.bool (!PyData.eqv d e)) else .bad
def hIs : Dt → Dt → O Dt := fun d e => match e with
  | .none => .ok (.bool (match d with | .none => true | _ => false))
  | _ => .bad
def hIsNot : Dt → Dt → O Dt := fun d e => match e with
  | .none => .ok (.bool (match d with | .none => false | _ => true))
  | _ => .bad
def hIn : Dt → Dt → O Dt := fun d e => match e with
  | .list ds => if SeqAt.shaped d && SeqAt.shaped e then .ok (.bool (ds.any fun z => PyData.eqv z d)) else .bad
  | .tuple ds => if SeqAt.shaped d && SeqAt.shaped e then .ok (.bool (ds.any fun z => PyData.eqv z d)) else .bad
  | _ => .bad
def hNotIn : Dt → Dt → O Dt := fun d e => match e with
  | .list ds => if SeqAt.shaped d && SeqAt.shaped e then .ok (.bool (!ds.any fun z => PyData.eqv z d)) else .bad
  | .tuple ds => if SeqAt.shaped d && SeqAt.shaped e then .ok (.bool (!ds.any fun z => PyData.eqv z d)) else .bad
  | _ => .bad
def hLen : List Dt → O Dt := fun ds => match ds with
  | [.list xs] => .ok (.int xs.length)
  | [.tuple xs] => .ok (.int xs.length)
  | [.str x] => if x.length ≤ 100000 then .ok (.int x.length) else .bad
  | _ => .bad
def hMin2 : List Dt → O Dt := fun ds => match ds with
  | [.int i, .int j] => .ok (.int (if j < i then j else i))
  | _ => .bad
def hMax2 : List Dt → O Dt := fun ds => match ds with
  | [.int i, .int j] => .ok (.int (if j > i then j else i))
  | _ => .bad
def hMin3 : List Dt → O Dt := fun ds => match ds with
  | [.int i, .int j, .int k] => .ok (.int (if j < i then (if k < j then k else j) else (if k < i then k else i)))
  | _ => .bad
def hBits : Dt → O Dt := fun d => match d with
  | .int i => .ok (.int (Builtin.Int.intBits i : Nat))
  | _ => .bad
def hInt1 : List Dt → O Dt := fun ds => match ds with
  | [.int i] => .ok (.int i)
  | [.bool k] => .ok (.int (if k then 1 else 0))
  | _ => .bad
def allB : List Dt → Option (List Bool)
  | [] => some []
  | .bool b :: r => (allB r).map (b :: ·)
  | _ => none
def allI : List Dt → Option (List Int)
  | [] => some []
  | .int b :: r => (allI r).map (b :: ·)
  | _ => none
def hAll : List Dt → O Dt := fun ds => match ds with
  | [.list xs] => match allB xs with
    | some bs => .ok (.bool (bs.all id))
    | none => .bad
  | _ => .bad
def hAny : List Dt → O Dt := fun ds => match ds with
  | [.list xs] => match allB xs with
    | some bs => .ok (.bool (bs.any id))
    | none => .bad
  | _ => .bad
def hSum : List Dt → O Dt := fun ds => match ds with
  | [.list xs] => match allI xs with
    | some bs => .ok (.int bs.sum)
    | none => .bad
  | _ => .bad

section
variable {K : PySem.W.Frag}

theorem scl_I0 {g} : Scl2 (hI0 g) := fun d e => by cases d <;> cases e <;> first | exact .inr rfl | exact .inl ⟨_, rfl, rfl⟩
theorem scl_B0 {g} : Scl2 (hB0 g) := fun d e => by cases d <;> cases e <;> first | exact .inr rfl | exact .inl ⟨_, rfl, rfl⟩
theorem scl_I {C g} : Scl2 (hI C g) := fun d e => by
  cases d <;> cases e <;> first | exact .inr rfl | skip
  unfold hI
  simp only
  split
  · exact .inl ⟨_, rfl, rfl⟩
  · exact .inr rfl
theorem osc_I0 {g : Int → Int → Int} : OSc K (rI0 fun i j => .int (g i j)) (hI0 g) := fun H x y d e Q hx hy h => by
  cases hx <;> first | exact h.elim | skip
  cases hy <;> first | exact h.elim | skip
  exact ⟨_, _, rfl, rfl, h.2 _ (.int _)⟩
theorem osc_B0 {g : Int → Int → Bool} : OSc K (rI0 fun i j => .bl (g i j)) (hB0 g) := fun H x y d e Q hx hy h => by
  cases hx <;> first | exact h.elim | skip
  cases hy <;> first | exact h.elim | skip
  exact ⟨_, _, rfl, rfl, h.2 _ (.bl _)⟩
theorem osc_I {C : Int → Int → Bool} {C' : Int → Int → Prop} {g : Int → Int → Int} (hc : ∀ i j, C i j = true → C' i j) : OSc K (rI C' fun i j => .int (g i j)) (hI C g) := fun H x y d e Q hx hy h => by
  cases hx <;> first | exact h.elim | skip
  cases hy <;> first | exact h.elim | skip
  rename_i i j
  unfold hI at h
  simp only at h
  by_cases c : C i j = true
  · rw [if_pos c] at h
    exact ⟨_, _, rfl, rfl, hc _ _ c, h.2 _ (.int _)⟩
  · rw [if_neg c] at h
    exact h.elim
theorem usc_U {g : Int → Int} : USc K (rU fun i => .int (g i)) (hU g) := fun H x d Q hx h => by
  cases hx <;> first | exact h.elim | skip
  exact ⟨_, rfl, h.2 _ (.int _)⟩
theorem scl_U {g} : Scl1 (hU g) := fun d => by cases d <;> first | exact .inr rfl | exact .inl ⟨_, rfl, rfl⟩
theorem cMul_ok {i j : Int} (h : cMul i j = true) : CMul i j := by
  unfold cMul at h
  rw [Bool.or_eq_true, decide_eq_true_eq, decide_eq_true_eq] at h
  rcases h with h | h
  · exact .inl (by omega)
  · exact .inr (by omega)
theorem cDiv_ok {i j : Int} (h : cDiv i j = true) : CDivW i j := by
  unfold cDiv at h
  rw [Bool.and_eq_true, decide_eq_true_eq, decide_eq_true_eq] at h
  exact wide_div h.1 h.2 (by decide) (by decide)
theorem cMod_ok {i j : Int} (h : cMod i j = true) : 0 < j := by
  unfold cMod at h
  rw [decide_eq_true_eq] at h
  exact h
theorem cPow_ok {i j : Int} (h : cPow i j = true) : CPow i j := by
  unfold cPow at h
  rw [Bool.and_eq_true, Bool.and_eq_true, decide_eq_true_eq, decide_eq_true_eq, decide_eq_true_eq] at h
  exact ⟨h.1.1, h.1.2, h.2⟩
theorem cShr_ok {i j : Int} (h : cShr i j = true) : 0 ≤ j := by
  unfold cShr at h
  rw [decide_eq_true_eq] at h
  exact h
theorem scl_eq : Scl2 hEq := fun d e => by
  unfold hEq
  split
  · exact .inl ⟨_, rfl, rfl⟩
  · exact .inr rfl
theorem scl_ne : Scl2 hNe := fun d e => by
  unfold hNe
  split
  · exact .inl ⟨_, rfl, rfl⟩
  · exact .inr rfl
theorem osc_eq : OSc K (rEqD K) hEq := fun H x y d e Q hx hy h => by
  unfold hEq at h
  by_cases c : (SeqAt.shaped d && SeqAt.shaped e) = true
  · rw [if_pos c] at h
    rw [Bool.and_eq_true] at c
    exact ⟨d, e, hx.dp (shaped_lay c.1), hy.dp (shaped_lay c.2), c.1, c.2, h.2 _ (.bl _)⟩
  · rw [if_neg c] at h
    exact h.elim
theorem osc_ne : OSc K (rNeD K) hNe := fun H x y d e Q hx hy h => by
  unfold hNe at h
  by_cases c : (SeqAt.shaped d && SeqAt.shaped e) = true
  · rw [if_pos c] at h
    rw [Bool.and_eq_true] at c
    exact ⟨d, e, hx.dp (shaped_lay c.1), hy.dp (shaped_lay c.2), c.1, c.2, h.2 _ (.bl _)⟩
  · rw [if_neg c] at h
    exact h.elim
theorem scl_is : Scl2 hIs := fun d e => by cases e <;> first | exact .inr rfl | exact .inl ⟨_, rfl, rfl⟩
theorem scl_isNot : Scl2 hIsNot := fun d e => by cases e <;> first | exact .inr rfl | exact .inl ⟨_, rfl, rfl⟩
theorem osc_is : OSc K (fun x y H Q => y = .non ∧ Q (.bl (decide (x = .non))) H) hIs := fun H x y d e Q hx hy h => by
  cases hy <;> first | exact h.elim | skip
  refine ⟨rfl, h.2 _ ?_⟩
  cases hx <;> exact .bl _
theorem osc_isNot : OSc K (fun x y H Q => y = .non ∧ Q (.bl (!decide (x = .non))) H) hIsNot := fun H x y d e Q hx hy h => by
  cases hy <;> first | exact h.elim | skip
  refine ⟨rfl, h.2 _ ?_⟩
  cases hx <;> exact .bl _

/-! ### in, not in -/
def rInDT (K : PySem.W.Frag) (neg : Bool) : R2 := fun x y H Q => ∃ d e ds, Dp K H x d ∧ Dp K H y e ∧ (e = .list ds ∨ e = .tuple ds) ∧ SeqAt.shaped d = true ∧ SeqAt.shaped e = true ∧ Q (.bl (if neg then !ds.any fun z => PyData.eqv z d else ds.any fun z => PyData.eqv z d)) H
theorem room_in_any {A : Around} {d e : PyData} {ds : List PyData} (sd : SeqAt.shaped d = true) (hu : A.units + 65 < cLine) : A.units + 1 + min (PyData.depthAll ds) d.depth < cLine := by
  have h1 := SeqAt.depth_of_shaped sd
  have h2 : min (PyData.depthAll ds) d.depth ≤ d.depth := Nat.min_le_right _ _
  omega
theorem op_inDT {X : Cx} (hu : X.A.units + 65 < cLine) : OpR X (compareOp .In) (rInDT X.K false) := by
  intro pins s σ H x y v u Q I rx ry h
  obtain ⟨d, e, ds, hd, he, ee, sd, se, q⟩ := h
  obtain ⟨as, r1⟩ := Dp.reads I d x v hd rx
  obtain ⟨bs, r2⟩ := Dp.reads I e y u he ry
  rcases ee with rfl | rfl
  · exact SeqAt.in_list_reads r2 r1 (SeqAt.canLay_of_shaped se) (SeqAt.canLay_of_shaped sd) (room_in_any (e := d) sd hu) ⟨.bl _, H, I, rfl, q⟩
  · exact SeqAt.in_tuple_reads r2 r1 (SeqAt.canLay_of_shaped se) (SeqAt.canLay_of_shaped sd) (room_in_any (e := d) sd hu) ⟨.bl _, H, I, rfl, q⟩
theorem op_notInDT {X : Cx} (hu : X.A.units + 65 < cLine) : OpR X (compareOp .NotIn) (rInDT X.K true) := by
  intro pins s σ H x y v u Q I rx ry h
  obtain ⟨d, e, ds, hd, he, ee, sd, se, q⟩ := h
  obtain ⟨as, r1⟩ := Dp.reads I d x v hd rx
  obtain ⟨bs, r2⟩ := Dp.reads I e y u he ry
  rcases ee with rfl | rfl
  · exact SeqAt.notIn_list_reads r2 r1 (SeqAt.canLay_of_shaped se) (SeqAt.canLay_of_shaped sd) (room_in_any (e := d) sd hu) ⟨.bl _, H, I, rfl, q⟩
  · exact SeqAt.notIn_tuple_reads r2 r1 (SeqAt.canLay_of_shaped se) (SeqAt.canLay_of_shaped sd) (room_in_any (e := d) sd hu) ⟨.bl _, H, I, rfl, q⟩
theorem scl_in : Scl2 hIn := fun d e => by
  unfold hIn
  cases e <;> first | exact .inr rfl | (simp only; split <;> first | exact .inl ⟨_, rfl, rfl⟩ | exact .inr rfl)
theorem scl_notIn : Scl2 hNotIn := fun d e => by
  unfold hNotIn
  cases e <;> first | exact .inr rfl | (simp only; split <;> first | exact .inl ⟨_, rfl, rfl⟩ | exact .inr rfl)
theorem osc_in : OSc K (rInDT K false) hIn := fun H x y d e Q hx hy h => by
  unfold hIn at h
  cases e <;> first | exact h.elim | skip
  all_goals rename_i ds
  · simp only at h
    generalize he : (PyData.list ds : PyData) = e at h hy
    by_cases c : (SeqAt.shaped d && SeqAt.shaped e) = true
    · rw [if_pos c] at h
      rw [Bool.and_eq_true] at c
      exact ⟨d, e, ds, hx.dp (shaped_lay c.1), hy.dp (shaped_lay c.2), .inl he.symm, c.1, c.2, h.2 _ (.bl _)⟩
    · rw [if_neg c] at h
      exact h.elim
  · simp only at h
    generalize he : (PyData.tuple ds : PyData) = e at h hy
    by_cases c : (SeqAt.shaped d && SeqAt.shaped e) = true
    · rw [if_pos c] at h
      rw [Bool.and_eq_true] at c
      exact ⟨d, e, ds, hx.dp (shaped_lay c.1), hy.dp (shaped_lay c.2), .inr he.symm, c.1, c.2, h.2 _ (.bl _)⟩
    · rw [if_neg c] at h
      exact h.elim
theorem osc_notIn : OSc K (rInDT K true) hNotIn := fun H x y d e Q hx hy h => by
  unfold hNotIn at h
  cases e <;> first | exact h.elim | skip
  all_goals rename_i ds
  · simp only at h
    generalize he : (PyData.list ds : PyData) = e at h hy
    by_cases c : (SeqAt.shaped d && SeqAt.shaped e) = true
    · rw [if_pos c] at h
      rw [Bool.and_eq_true] at c
      exact ⟨d, e, ds, hx.dp (shaped_lay c.1), hy.dp (shaped_lay c.2), .inl he.symm, c.1, c.2, h.2 _ (.bl _)⟩
    · rw [if_neg c] at h
      exact h.elim
  · simp only at h
    generalize he : (PyData.tuple ds : PyData) = e at h hy
    by_cases c : (SeqAt.shaped d && SeqAt.shaped e) = true
    · rw [if_pos c] at h
      rw [Bool.and_eq_true] at c
      exact ⟨d, e, ds, hx.dp (shaped_lay c.1), hy.dp (shaped_lay c.2), .inr he.symm, c.1, c.2, h.2 _ (.bl _)⟩
    · rw [if_neg c] at h
      exact h.elim

/-! ### calls of built-ins with a scalar's answer -/
theorem Rp.lenV {F : Addr → Prop} {H : Hp} {v : V} {xs : List Dt} (h : Rp K F H v (.list xs)) : LenV K v H xs.length := by
  cases h with
  | lst h _ r => exact .inl ⟨_, .inl (.inl h), by first | exact r.length | exact r.length.symm⟩
  | fz h r => exact .inl ⟨_, h.sql, by first | exact r.length | exact r.length.symm⟩
theorem Rp.lenVt {F : Addr → Prop} {H : Hp} {v : V} {xs : List Dt} (h : Rp K F H v (.tuple xs)) : LenV K v H xs.length := by
  cases h with
  | tup h r => exact .inr ⟨_, h, by first | exact r.length | exact r.length.symm⟩
theorem csc_len : CSc K (fun xs H Q => ∃ x n, xs = [x] ∧ LenV K x H n ∧ Q (.int n) H) hLen := fun H xs ds Q hx h => by
  unfold hLen at h
  split at h
  · rename_i e
    split at e
    · cases hx with
      | cons h1 h2 =>
        cases h2
        cases e
        exact ⟨_, _, rfl, h1.lenV, h.2 _ (.int _)⟩
    · cases hx with
      | cons h1 h2 =>
        cases h2
        cases e
        exact ⟨_, _, rfl, h1.lenVt, h.2 _ (.int _)⟩
    · split at e
      · rename_i c
        cases e
        cases hx with
        | cons h1 h2 =>
          cases h2
          cases h1
          exact ⟨_, _, rfl, ⟨sz_le c, rfl⟩, h.2 _ (.int _)⟩
      · cases e
    · cases e
  · exact h.elim
theorem scl_len : SclA hLen := fun ds => by
  unfold hLen
  split
  · exact .inl ⟨_, rfl, rfl⟩
  · exact .inl ⟨_, rfl, rfl⟩
  · split
    · exact .inl ⟨_, rfl, rfl⟩
    · exact .inr rfl
  · exact .inr rfl
theorem rpInt {F : Addr → Prop} {H : Hp} {v : V} {i : Int} (h : Rp K F H v (.int i)) : v = .int i := by cases h; rfl
theorem rpBl {F : Addr → Prop} {H : Hp} {v : V} {i : Bool} (h : Rp K F H v (.bool i)) : v = .bl i := by cases h; rfl
theorem csc_min2 : CSc K (fun xs H Q => ∃ i j, xs = [.int i, .int j] ∧ Q (.int (if j < i then j else i)) H) hMin2 := fun H xs ds Q hx h => by
  unfold hMin2 at h
  split at h
  · rename_i e
    split at e
    · cases hx with
      | cons h1 h2 =>
        cases h2 with
        | cons h2 h3 =>
          cases h3
          cases e
          rw [rpInt h1, rpInt h2]
          exact ⟨_, _, rfl, h.2 _ (.int _)⟩
    · cases e
  · exact h.elim
theorem scl_min2 : SclA hMin2 := fun ds => by
  unfold hMin2
  split
  · exact .inl ⟨_, rfl, rfl⟩
  · exact .inr rfl
theorem csc_max2 : CSc K (fun xs H Q => ∃ i j, xs = [.int i, .int j] ∧ Q (.int (if j > i then j else i)) H) hMax2 := fun H xs ds Q hx h => by
  unfold hMax2 at h
  split at h
  · rename_i e
    split at e
    · cases hx with
      | cons h1 h2 =>
        cases h2 with
        | cons h2 h3 =>
          cases h3
          cases e
          rw [rpInt h1, rpInt h2]
          exact ⟨_, _, rfl, h.2 _ (.int _)⟩
    · cases e
  · exact h.elim
theorem scl_max2 : SclA hMax2 := fun ds => by
  unfold hMax2
  split
  · exact .inl ⟨_, rfl, rfl⟩
  · exact .inr rfl
def rMin3 : List V → Hp → VK → Prop := fun xs H Q => ∃ i j k, xs = [.int i, .int j, .int k] ∧ Q (.int (if j < i then (if k < j then k else j) else (if k < i then k else i))) H
theorem call_min3 {X : Cx} (hc : X.calm = true) : CallR X (.builtin "min") rMin3 := by
  intro pins s σ H xs us Q I r h
  obtain ⟨i, j, k, rfl, q⟩ := h
  cases r with
  | cons r1 r =>
    cases r with
    | cons r2 r =>
      cases r with
      | cons r3 r =>
        cases r
        obtain ⟨t1, rfl⟩ := r1
        obtain ⟨t2, rfl⟩ := r2
        obtain ⟨t3, rfl⟩ := r3
        refine min_three_ints (I.ok.hd hc) fun h' tk k => ⟨_, H, I.kept k, ?_, q⟩
        split
        · split <;> exact ⟨_, rfl⟩
        · split <;> exact ⟨_, rfl⟩
theorem csc_min3 : CSc K rMin3 hMin3 := fun H xs ds Q hx h => by
  unfold hMin3 at h
  split at h
  · rename_i e
    split at e
    · cases hx with
      | cons h1 h2 =>
        cases h2 with
        | cons h2 h3 =>
          cases h3 with
          | cons h3 h4 =>
            cases h4
            cases e
            rw [rpInt h1, rpInt h2, rpInt h3]
            exact ⟨_, _, _, rfl, h.2 _ (.int _)⟩
    · cases e
  · exact h.elim
theorem scl_min3 : SclA hMin3 := fun ds => by
  unfold hMin3
  split
  · exact .inl ⟨_, rfl, rfl⟩
  · exact .inr rfl
theorem csc_int1 : CSc K (fun xs H Q => (∃ i, xs = [.int i] ∧ Q (.int i) H) ∨ ∃ k, xs = [.bl k] ∧ Q (.int (if k then 1 else 0)) H) hInt1 := fun H xs ds Q hx h => by
  unfold hInt1 at h
  split at h
  · rename_i e
    split at e
    · cases hx with
      | cons h1 h2 =>
        cases h2
        cases e
        rw [rpInt h1]
        exact .inl ⟨_, rfl, h.2 _ (.int _)⟩
    · cases hx with
      | cons h1 h2 =>
        cases h2
        cases e
        rw [rpBl h1]
        exact .inr ⟨_, rfl, h.2 _ (.int _)⟩
    · cases e
  · exact h.elim
theorem scl_int1 : SclA hInt1 := fun ds => by
  unfold hInt1
  split
  · exact .inl ⟨_, rfl, rfl⟩
  · exact .inl ⟨_, rfl, rfl⟩
  · exact .inr rfl
theorem rp_bools {F : Addr → Prop} {H : Hp} : ∀ {xs : List V} {ds : List Dt} {bs : List Bool}, RpA K F H xs ds → allB ds = some bs → xs = bs.map V.bl
  | _, _, _, .nil, e => by cases e; rfl
  | _, _, bs, .cons (d := d) h r, e => by
    cases h <;> first | (cases e; done) | skip
    rename_i b _ _
    unfold allB at e
    cases q : allB _ with
    | none => rw [q] at e; cases e
    | some cs =>
      rw [q] at e
      cases e
      rw [rp_bools r q]
      rfl
theorem rp_ints {F : Addr → Prop} {H : Hp} : ∀ {xs : List V} {ds : List Dt} {bs : List Int}, RpA K F H xs ds → allI ds = some bs → xs = bs.map V.int
  | _, _, _, .nil, e => by cases e; rfl
  | _, _, bs, .cons (d := d) h r, e => by
    cases h <;> first | (cases e; done) | skip
    rename_i b _ _
    unfold allI at e
    cases q : allI _ with
    | none => rw [q] at e; cases e
    | some cs =>
      rw [q] at e
      cases e
      rw [rp_ints r q]
      rfl
theorem Rp.sql {F : Addr → Prop} {H : Hp} {v : V} {ds : List Dt} (h : Rp K F H v (.list ds)) : ∃ a xs, v = .ref a ∧ SqL K H a xs ∧ RpA K F H xs ds := by
  cases h with
  | lst h _ r => exact ⟨_, _, rfl, .inl (.inl h), r⟩
  | fz h r => exact ⟨_, _, rfl, h.sql, r⟩
theorem csc_all : CSc K (rAll K) hAll := fun H xs ds Q hx h => by
  unfold hAll at h
  split at h
  · rename_i e
    split at e
    · split at e
      · rename_i bs eb
        cases e
        cases hx with
        | cons h1 h2 =>
          cases h2
          obtain ⟨a, ys, rfl, hs, r⟩ := h1.sql
          rw [rp_bools r eb] at hs
          exact ⟨a, bs, rfl, hs, h.2 _ (.bl _)⟩
      · cases e
    · cases e
  · exact h.elim
theorem scl_all : SclA hAll := fun ds => by
  unfold hAll
  split
  · split
    · exact .inl ⟨_, rfl, rfl⟩
    · exact .inr rfl
  · exact .inr rfl
theorem csc_any : CSc K (rAny K) hAny := fun H xs ds Q hx h => by
  unfold hAny at h
  split at h
  · rename_i e
    split at e
    · split at e
      · rename_i bs eb
        cases e
        cases hx with
        | cons h1 h2 =>
          cases h2
          obtain ⟨a, ys, rfl, hs, r⟩ := h1.sql
          rw [rp_bools r eb] at hs
          exact ⟨a, bs, rfl, hs, h.2 _ (.bl _)⟩
      · cases e
    · cases e
  · exact h.elim
theorem scl_any : SclA hAny := fun ds => by
  unfold hAny
  split
  · split
    · exact .inl ⟨_, rfl, rfl⟩
    · exact .inr rfl
  · exact .inr rfl
theorem csc_sum : CSc K (rSum K) hSum := fun H xs ds Q hx h => by
  unfold hSum at h
  split at h
  · rename_i e
    split at e
    · split at e
      · rename_i bs eb
        cases e
        cases hx with
        | cons h1 h2 =>
          cases h2
          obtain ⟨a, ys, rfl, hs, r⟩ := h1.sql
          rw [rp_ints r eb] at hs
          exact ⟨a, bs, rfl, hs, h.2 _ (.int _)⟩
      · cases e
    · cases e
  · exact h.elim
theorem scl_sum : SclA hSum := fun ds => by
  unfold hSum
  split
  · split
    · exact .inl ⟨_, rfl, rfl⟩
    · exact .inr rfl
  · exact .inr rfl
theorem usc_bits : USc K (fun x H Q => ∃ i, x = .int i ∧ Q (.int (Builtin.Int.intBits i : Nat)) H) hBits := fun H x d Q hx h => by
  cases hx <;> first | exact h.elim | skip
  exact ⟨_, rfl, h.2 _ (.int _)⟩
theorem scl_bits : Scl1 hBits := fun d => by cases d <;> first | exact .inr rfl | exact .inl ⟨_, rfl, rfl⟩
end

/-! ### the rules -/
section
variable {X : Cx} {K : PySem.W.Frag} {W : Wt} {Δ : List Kd} {a b c e : Expr} {es : List Expr} {ta tb tc te : TE} {tt tu : TT} {tA : TA} {ga gb gc g : Gd} {gt gu : List Dt → O Bool} {gA : List Dt → O (List Dt)} {k k1 k2 : Rk} {av fr av' fr' : Bool} {pos : Pos}

theorem x_var (i : Nat) {x : Str} (hk : Δ[i]? = some (.im fr) := by rfl) (hN : X.N[i]? = some x := by rfl) (hv : Vis X.env.scope x := by first | exact Or.inl rfl | exact Or.inr (Or.inl rfl) | exact Or.inr (Or.inr rfl)) (hd : (x == ("__debug__" : Str)) = false := by decide)
    (hcd : (x == ("__classdict__" : Str)) = false := by decide) (hK : X.K = K := by rfl) : PD X K W Δ (.Name x pos) (tVar i) (.v true fr) (gVar i) := ⟨pe_var hN hv hd hcd, hK, se_var hk⟩
theorem x_own (i : Nat) {x : Str} (hk : Δ[i]? = some (.own .l fr) := by rfl) (hN : X.N[i]? = some x := by rfl) (hv : Vis X.env.scope x := by first | exact Or.inl rfl | exact Or.inr (Or.inl rfl) | exact Or.inr (Or.inr rfl)) (hd : (x == ("__debug__" : Str)) = false := by decide)
    (hcd : (x == ("__classdict__" : Str)) = false := by decide) (hK : X.K = K := by rfl) : PD X K W Δ (.Name x pos) (tVar i) (.o fr) (gVar i) := ⟨pe_var hN hv hd hcd, hK, se_own hk⟩
theorem x_int {i : Int} {j} (hK : X.K = K := by rfl) : PD X K W Δ (.Constant (.int i) j pos) (tC (.int i)) (.v true true) (gC (.int i)) := ⟨pe_int, hK, se_int⟩
theorem x_bl {i : Bool} {j} (hK : X.K = K := by rfl) : PD X K W Δ (.Constant (.bool i) j pos) (tC (.bl i)) (.v true true) (gC (.bool i)) := ⟨pe_bl, hK, se_bl⟩
theorem x_non {j} (hK : X.K = K := by rfl) : PD X K W Δ (.Constant .none j pos) (tC .non) (.v true true) (gC .none) := ⟨pe_non, hK, se_non⟩
theorem x_str {x : Str} {j} (hK : X.K = K := by rfl) : PD X K W Δ (.Constant (.str x) j pos) (tC (.str x)) (.v true true) (gC (.str x)) := ⟨pe_str, hK, se_str⟩
theorem x_glob {x : Str} {v : V} {u : Value} {d : Dt} (hm : X.mg x = some u) (r : RelV v u) (hr : Rp K (fun _ => False) (fun _ => none) v d) (s : scl d = true := by rfl) (hg : Gl X x := by rfl) (hd : (x == ("__debug__" : Str)) = false := by decide) (hK : X.K = K := by rfl) :
    PD X K W Δ (.Name x pos) (tC v) (.v true true) (gC d) := ⟨pe_glob hg hm r hd, hK, se_c hr s⟩

theorem PD.wk (h : PD X K W Δ e te (.v av fr) g) (h1 : av' = true → av = true := by decide) (h2 : fr' = true → fr = true := by decide) : PD X K W Δ e te (.v av' fr') g := ⟨h.pe, h.hK, h.se.wk h1 h2⟩
theorem PD.ov (h : PD X K W Δ e te (.o fr) g) : PD X K W Δ e te (.v false fr) g := ⟨h.pe, h.hK, h.se.ov⟩
theorem PD.nv (h : PD X K W Δ e te (.new .l fr) g) : PD X K W Δ e te (.v true fr) g := ⟨h.pe, h.hK, h.se.nv⟩
theorem PD.no (h : PD X K W Δ e te (.new .l fr) g) : PD X K W Δ e te (.o fr) g := ⟨h.pe, h.hK, h.se.no⟩
theorem PD.pur (h : PD X K W Δ e te (.v av fr) g) : PD X K W Δ e te (.v true true) (gPur g) := ⟨h.pe, h.hK, h.se.pur⟩
theorem PD.purN (h : PD X K W Δ e te (.new .l fr) g) : PD X K W Δ e te (.new .l true) (gPurN g) := ⟨h.pe, h.hK, h.se.purN⟩
theorem PD.purO (h : PD X K W Δ e te (.o fr) g) : PD X K W Δ e te (.o true) (gPurN g) := ⟨h.pe, h.hK, h.se.purO⟩

theorem x_add (ha : PD X K W Δ a ta (.v av fr) ga) (hb : PD X K W Δ b tb (.v av' fr') gb) : PD X K W Δ (.BinOp a .Add b pos) (tOp (rI0 fun i j => .int (i + j)) ta tb) (.v true true) (gOp hAdd ga gb) := ⟨pe_op op_add ha.pe hb.pe, ha.hK, se_op scl_I0 osc_I0 ha.se hb.se⟩
theorem x_sub (ha : PD X K W Δ a ta (.v av fr) ga) (hb : PD X K W Δ b tb (.v av' fr') gb) : PD X K W Δ (.BinOp a .Sub b pos) (tOp (rI0 fun i j => .int (i - j)) ta tb) (.v true true) (gOp hSub ga gb) := ⟨pe_op op_sub ha.pe hb.pe, ha.hK, se_op scl_I0 osc_I0 ha.se hb.se⟩
theorem x_mul (ha : PD X K W Δ a ta (.v av fr) ga) (hb : PD X K W Δ b tb (.v av' fr') gb) : PD X K W Δ (.BinOp a .Mult b pos) (tOp (rI CMul fun i j => .int (i * j)) ta tb) (.v true true) (gOp hMul ga gb) := ⟨pe_op op_mul ha.pe hb.pe, ha.hK, se_op scl_I (osc_I fun _ _ => cMul_ok) ha.se hb.se⟩
theorem x_div (ha : PD X K W Δ a ta (.v av fr) ga) (hb : PD X K W Δ b tb (.v av' fr') gb) : PD X K W Δ (.BinOp a .FloorDiv b pos) (tOp (rI CDivW fun i j => .int (i / j)) ta tb) (.v true true) (gOp hDiv ga gb) := ⟨pe_op op_fdivW ha.pe hb.pe, ha.hK, se_op scl_I (osc_I fun _ _ => cDiv_ok) ha.se hb.se⟩
theorem x_mod (ha : PD X K W Δ a ta (.v av fr) ga) (hb : PD X K W Δ b tb (.v av' fr') gb) : PD X K W Δ (.BinOp a .Mod b pos) (tOp (rI (fun _ j => 0 < j) fun i j => .int (i % j)) ta tb) (.v true true) (gOp hMod ga gb) := ⟨pe_op op_mod ha.pe hb.pe, ha.hK, se_op scl_I (osc_I fun _ _ => cMod_ok) ha.se hb.se⟩
theorem x_pow (ha : PD X K W Δ a ta (.v av fr) ga) (hb : PD X K W Δ b tb (.v av' fr') gb) : PD X K W Δ (.BinOp a .Pow b pos) (tOp (rI CPow fun i j => .int (i ^ j.toNat)) ta tb) (.v true true) (gOp hPow ga gb) := ⟨pe_op op_pow ha.pe hb.pe, ha.hK, se_op scl_I (osc_I fun _ _ => cPow_ok) ha.se hb.se⟩
theorem x_shr (ha : PD X K W Δ a ta (.v av fr) ga) (hb : PD X K W Δ b tb (.v av' fr') gb) : PD X K W Δ (.BinOp a .RShift b pos) (tOp (rI (fun _ j => 0 ≤ j) fun i j => .int (i / 2 ^ j.toNat)) ta tb) (.v true true) (gOp hShr ga gb) := ⟨pe_op op_shr ha.pe hb.pe, ha.hK, se_op scl_I (osc_I fun _ _ => cShr_ok) ha.se hb.se⟩
theorem x_band (ha : PD X K W Δ a ta (.v av fr) ga) (hb : PD X K W Δ b tb (.v av' fr') gb) : PD X K W Δ (.BinOp a .BitAnd b pos) (tOp (rI0 fun i j => .int (Builtin.bitAnd i j)) ta tb) (.v true true) (gOp hBand ga gb) := ⟨pe_op op_and ha.pe hb.pe, ha.hK, se_op scl_I0 osc_I0 ha.se hb.se⟩
theorem x_neg (ha : PD X K W Δ a ta (.v av fr) ga) : PD X K W Δ (.UnaryOp .USub a pos) (tUn (rU fun i => .int (-i)) ta) (.v true true) (gUn (hU fun i => -i) ga) := ⟨pe_un un_neg ha.pe, ha.hK, se_un scl_U usc_U ha.se⟩
theorem x_bits {apos : Pos} (ha : PD X K W Δ a ta (.v av fr) ga) (hbase : attributeBase a "bit_length" X.env (eval a X.env) = eval a X.env := by rfl) (hline : (apos.endLine == pos.line) = true := by rfl) :
    PD X K W Δ (.Call (.Attribute a "bit_length" apos) [] [] pos) (tBits ta) (.v true true) (gUn hBits ga) := ⟨pe_bits ha.pe hbase hline, ha.hK, se_un scl_bits usc_bits ha.se⟩

theorem x_lt (ha : PD X K W Δ a ta (.v av fr) ga) (hb : PD X K W Δ b tb (.v av' fr') gb) : PD X K W Δ (.Compare a [.Lt] [b] pos) (tOp (rI0 fun i j => .bl (decide (i < j))) ta tb) (.v true true) (gOp hLt ga gb) := ⟨pe_cmpR op_lt ha.pe hb.pe (nobehind _ (by decide) (by decide)), ha.hK, se_op scl_B0 osc_B0 ha.se hb.se⟩
theorem x_le (ha : PD X K W Δ a ta (.v av fr) ga) (hb : PD X K W Δ b tb (.v av' fr') gb) : PD X K W Δ (.Compare a [.LtE] [b] pos) (tOp (rI0 fun i j => .bl (decide (i ≤ j))) ta tb) (.v true true) (gOp hLe ga gb) := ⟨pe_cmpR op_le ha.pe hb.pe (nobehind _ (by decide) (by decide)), ha.hK, se_op scl_B0 osc_B0 ha.se hb.se⟩
theorem x_gt (ha : PD X K W Δ a ta (.v av fr) ga) (hb : PD X K W Δ b tb (.v av' fr') gb) : PD X K W Δ (.Compare a [.Gt] [b] pos) (tOp (rI0 fun i j => .bl (decide (j < i))) ta tb) (.v true true) (gOp hGt ga gb) := ⟨pe_cmpR op_gt ha.pe hb.pe (nobehind _ (by decide) (by decide)), ha.hK, se_op scl_B0 osc_B0 ha.se hb.se⟩
theorem x_ge (ha : PD X K W Δ a ta (.v av fr) ga) (hb : PD X K W Δ b tb (.v av' fr') gb) : PD X K W Δ (.Compare a [.GtE] [b] pos) (tOp (rI0 fun i j => .bl (decide (j ≤ i))) ta tb) (.v true true) (gOp hGe ga gb) := ⟨pe_cmpR op_ge ha.pe hb.pe (nobehind _ (by decide) (by decide)), ha.hK, se_op scl_B0 osc_B0 ha.se hb.se⟩
theorem x_eq {n : Nat} (hr : Room n X.A) (ha : PD X K W Δ a ta (.v av fr) ga) (hb : PD X K W Δ b tb (.v av' fr') gb) : PD X K W Δ (.Compare a [.Eq] [b] pos) (tOp (rEqD K) ta tb) (.v true true) (gOp hEq ga gb) :=
  ⟨pe_cmpR (by have q := op_eqD (X := X) (by have := hr.un; omega); rw [ha.hK] at q; exact q) ha.pe hb.pe (nobehind _ (by decide) (by decide)), ha.hK, se_op scl_eq osc_eq ha.se hb.se⟩
theorem x_ne {n : Nat} (hr : Room n X.A) (ha : PD X K W Δ a ta (.v av fr) ga) (hb : PD X K W Δ b tb (.v av' fr') gb) : PD X K W Δ (.Compare a [.NotEq] [b] pos) (tOp (rNeD K) ta tb) (.v true true) (gOp hNe ga gb) :=
  ⟨pe_cmpR (by have q := op_neD (X := X) (by have := hr.un; omega); rw [ha.hK] at q; exact q) ha.pe hb.pe (nobehind _ (by decide) (by decide)), ha.hK, se_op scl_ne osc_ne ha.se hb.se⟩
theorem x_in {n : Nat} (hr : Room n X.A) (ha : PD X K W Δ a ta (.v av fr) ga) (hb : PD X K W Δ b tb (.v av' fr') gb) (hm : behindInMarks .In b = false := by rfl) : PD X K W Δ (.Compare a [.In] [b] pos) (tOp (rInDT K false) ta tb) (.v true true) (gOp hIn ga gb) :=
  ⟨pe_cmpR (by have q := op_inDT (X := X) (by have := hr.un; omega); rw [ha.hK] at q; exact q) ha.pe hb.pe hm, ha.hK, se_op scl_in osc_in ha.se hb.se⟩
theorem x_notIn {n : Nat} (hr : Room n X.A) (ha : PD X K W Δ a ta (.v av fr) ga) (hb : PD X K W Δ b tb (.v av' fr') gb) (hm : behindInMarks .NotIn b = false := by rfl) : PD X K W Δ (.Compare a [.NotIn] [b] pos) (tOp (rInDT K true) ta tb) (.v true true) (gOp hNotIn ga gb) :=
  ⟨pe_cmpR (by have q := op_notInDT (X := X) (by have := hr.un; omega); rw [ha.hK] at q; exact q) ha.pe hb.pe hm, ha.hK, se_op scl_notIn osc_notIn ha.se hb.se⟩
theorem x_isN (ha : PD X K W Δ a ta (.v av fr) ga) (hb : PD X K W Δ b tb (.v av' fr') gb) : PD X K W Δ (.Compare a [.Is] [b] pos) (tOp (fun x y H Q => y = .non ∧ Q (.bl (decide (x = .non))) H) ta tb) (.v true true) (gOp hIs ga gb) := ⟨pe_cmpR op_isN ha.pe hb.pe (nobehind _ (by decide) (by decide)), ha.hK, se_op scl_is osc_is ha.se hb.se⟩
theorem x_notN (ha : PD X K W Δ a ta (.v av fr) ga) (hb : PD X K W Δ b tb (.v av' fr') gb) : PD X K W Δ (.Compare a [.IsNot] [b] pos) (tOp (fun x y H Q => y = .non ∧ Q (.bl (!decide (x = .non))) H) ta tb) (.v true true) (gOp hIsNot ga gb) := ⟨pe_cmpR op_notN ha.pe hb.pe (nobehind _ (by decide) (by decide)), ha.hK, se_op scl_isNot osc_isNot ha.se hb.se⟩

/-! tests -/
theorem c_val (h : PD X K W Δ e te (.v av fr) g) (he : ∀ whole, isTrue e X.env whole = (do let v ← whole; standAt e.pos; holding [v] (truthy v)) := by intro _; rfl) : TD X K W Δ e (tB te) (gTest g) := ⟨pt_val h.pe he, h.hK, st_B h.se⟩
theorem c_not (h : TD X K W Δ a tt gt) : TD X K W Δ (.UnaryOp .Not a pos) (tNot tt) (gNot gt) := ⟨pt_not h.pt, h.hK, st_not h.st⟩
theorem w_and1 (h : TD X K W Δ a tt gt) : WD X K W Δ (.BoolOp .And [a] pos) tt gt := ⟨pw_and1 h.pt, h.hK, h.st⟩
theorem w_or1 (h : TD X K W Δ a tt gt) : WD X K W Δ (.BoolOp .Or [a] pos) tt gt := ⟨pw_or1 h.pt, h.hK, h.st⟩
theorem w_and (h : TD X K W Δ a tt gt) (h2 : WD X K W Δ (.BoolOp .And (b :: es) pos) tu gu) : WD X K W Δ (.BoolOp .And (a :: b :: es) pos) (tAnd tt tu) (gAnd gt gu) := ⟨pw_and h.pt h2.pw, h.hK, st_and h.st h2.st⟩
theorem w_or (h : TD X K W Δ a tt gt) (h2 : WD X K W Δ (.BoolOp .Or (b :: es) pos) tu gu) : WD X K W Δ (.BoolOp .Or (a :: b :: es) pos) (tOr tt tu) (gOr gt gu) := ⟨pw_or h.pt h2.pw, h.hK, st_or h.st h2.st⟩
theorem c_w (h : WD X K W Δ e tt gt) : TD X K W Δ e tt gt := ⟨h.pw.pt, h.hK, h.st⟩
theorem x_ifE (h : TD X K W Δ c tt gt) (ha : PD X K W Δ a ta k ga) (hb : PD X K W Δ b tb k gb) : PD X K W Δ (.IfExp c a b pos) (tIf tt ta tb) k (gIf gt ga gb) := ⟨pe_ifExp h.pt ha.pe hb.pe, h.hK, se_if h.st ha.se hb.se⟩
theorem x_one {op} (h : PD X K W Δ a ta k ga) : PD X K W Δ (.BoolOp op [a] pos) ta k ga := ⟨pe_one h.pe, h.hK, h.se⟩
theorem x_and (ha : PD X K W Δ a ta (.v av fr) ga) (hb : PD X K W Δ (.BoolOp .And (b :: es) pos) tb (.v true true) gb) : PD X K W Δ (.BoolOp .And (a :: b :: es) pos) (tAndV ta tb) (.v true true) (gAndV ga gb) := ⟨pe_and ha.pe hb.pe, ha.hK, se_andV ha.se hb.se⟩
theorem x_or (ha : PD X K W Δ a ta (.v av fr) ga) (hb : PD X K W Δ (.BoolOp .Or (b :: es) pos) tb (.v true true) gb) : PD X K W Δ (.BoolOp .Or (a :: b :: es) pos) (tOrV ta tb) (.v true true) (gOrV ga gb) := ⟨pe_or ha.pe hb.pe, ha.hK, se_orV ha.se hb.se⟩
theorem x_not (ha : PD X K W Δ a ta (.v av fr) ga) : PD X K W Δ (.UnaryOp .Not a pos) (tNotV ta) (.v true true) (gNotV ga) := ⟨pe_not ha.pe, ha.hK, se_notV ha.se⟩

/-! argument lists, displays -/
theorem a_nil (hK : X.K = K := by rfl) : AD X K W Δ [] tNil true true gNil := ⟨pa_nil, hK, sa_nil⟩
theorem a_cons (ha : PD X K W Δ a ta (.v av fr) ga) (hr : AD X K W Δ es tA av' fr' gA) (hs : starEach (a :: es) X.env = (false, eval a X.env) :: starEach es X.env := by rfl) : AD X K W Δ (a :: es) (tCons ta tA) (av && av') (fr && fr') (gCons ga gA) := ⟨pa_cons ha.pe hr.pa hs, ha.hK, sa_cons ha.se hr.sa⟩
theorem AD.wk (h : AD X K W Δ es tA av fr gA) (h1 : av' = true → av = true := by decide) (h2 : fr' = true → fr = true := by decide) : AD X K W Δ es tA av' fr' gA := ⟨h.pa, h.hK, h.sa.wk h1 h2⟩
theorem x_tup {x1} (h : AD X K W Δ es tA av fr gA) : PD X K W Δ (.Tuple es x1 pos) (tTup tA) (.v av fr) (gTup gA) := ⟨pe_tup h.pa, h.hK, se_tup h.sa⟩
theorem x_lst (h : AD X K W Δ es tA true fr gA) : PD X K W Δ (.List es pos) (tLst tA) (.new .l fr) (gLst gA) := ⟨pe_lst h.pa, h.hK, se_lst h.sa⟩
theorem x_lstv (h : AD X K W Δ es tA av fr gA) : PD X K W Δ (.List es pos) (tLst tA) (.v av fr) (gLst gA) := ⟨pe_lst h.pa, h.hK, se_lstv h.sa⟩

/-! calls of built-ins -/
theorem x_len {x : Str} {p : Pos} (hm : X.mg x = none) (h : AD X K W Δ (e :: es) tA av fr gA) (hv : bootBuiltins x = some (.builtin "len") := by decide +kernel) (hg : Gl X x := by rfl) (hn : x ≠ "__name__" := by decide) (hdb : (x == ("__debug__" : Str)) = false := by decide)
    (he : starEach (e :: es) X.env = (false, eval e X.env) :: starEach es X.env := by rfl) (hpl : (backTo pos (starEach es X.env)).any (·.1) = false := by rfl) :
    PD X K W Δ (.Call (.Name x p) (e :: es) [] pos) (tCB (fun xs H Q => ∃ x n, xs = [x] ∧ LenV K x H n ∧ Q (.int n) H) tA) (.v true true) (gCB hLen gA) :=
  ⟨pe_callB (by have q := call_len (X := X); rw [h.hK] at q; exact q) hg hm hv h.pa hn hdb he hpl, h.hK, se_cb scl_len csc_len h.sa⟩
theorem x_min2 {x : Str} {p : Pos} (hm : X.mg x = none) (h : AD X K W Δ (e :: es) tA av fr gA) (hc : X.calm = true := by rfl) (hv : bootBuiltins x = some (.builtin "min") := by decide +kernel) (hg : Gl X x := by rfl) (hn : x ≠ "__name__" := by decide) (hdb : (x == ("__debug__" : Str)) = false := by decide)
    (he : starEach (e :: es) X.env = (false, eval e X.env) :: starEach es X.env := by rfl) (hpl : (backTo pos (starEach es X.env)).any (·.1) = false := by rfl) :
    PD X K W Δ (.Call (.Name x p) (e :: es) [] pos) (tCB (fun xs H Q => ∃ i j, xs = [.int i, .int j] ∧ Q (.int (if j < i then j else i)) H) tA) (.v true true) (gCB hMin2 gA) := ⟨pe_callB (call_min2 hc) hg hm hv h.pa hn hdb he hpl, h.hK, se_cb scl_min2 csc_min2 h.sa⟩
theorem x_max2 {x : Str} {p : Pos} (hm : X.mg x = none) (h : AD X K W Δ (e :: es) tA av fr gA) (hc : X.calm = true := by rfl) (hv : bootBuiltins x = some (.builtin "max") := by decide +kernel) (hg : Gl X x := by rfl) (hn : x ≠ "__name__" := by decide) (hdb : (x == ("__debug__" : Str)) = false := by decide)
    (he : starEach (e :: es) X.env = (false, eval e X.env) :: starEach es X.env := by rfl) (hpl : (backTo pos (starEach es X.env)).any (·.1) = false := by rfl) :
    PD X K W Δ (.Call (.Name x p) (e :: es) [] pos) (tCB (fun xs H Q => ∃ i j, xs = [.int i, .int j] ∧ Q (.int (if j > i then j else i)) H) tA) (.v true true) (gCB hMax2 gA) := ⟨pe_callB (call_max2 hc) hg hm hv h.pa hn hdb he hpl, h.hK, se_cb scl_max2 csc_max2 h.sa⟩
theorem x_min3 {x : Str} {p : Pos} (hm : X.mg x = none) (h : AD X K W Δ (e :: es) tA av fr gA) (hc : X.calm = true := by rfl) (hv : bootBuiltins x = some (.builtin "min") := by decide +kernel) (hg : Gl X x := by rfl) (hn : x ≠ "__name__" := by decide) (hdb : (x == ("__debug__" : Str)) = false := by decide)
    (he : starEach (e :: es) X.env = (false, eval e X.env) :: starEach es X.env := by rfl) (hpl : (backTo pos (starEach es X.env)).any (·.1) = false := by rfl) :
    PD X K W Δ (.Call (.Name x p) (e :: es) [] pos) (tCB rMin3 tA) (.v true true) (gCB hMin3 gA) := ⟨pe_callB (call_min3 hc) hg hm hv h.pa hn hdb he hpl, h.hK, se_cb scl_min3 csc_min3 h.sa⟩
theorem x_int1 {x : Str} {p : Pos} (hm : X.mg x = none) (h : AD X K W Δ (e :: es) tA av fr gA) (hv : bootBuiltins x = some (.type "int") := by decide +kernel) (hg : Gl X x := by rfl) (hn : x ≠ "__name__" := by decide) (hdb : (x == ("__debug__" : Str)) = false := by decide)
    (he : starEach (e :: es) X.env = (false, eval e X.env) :: starEach es X.env := by rfl) (hpl : (backTo pos (starEach es X.env)).any (·.1) = false := by rfl) :
    PD X K W Δ (.Call (.Name x p) (e :: es) [] pos) (tCB (fun xs H Q => (∃ i, xs = [.int i] ∧ Q (.int i) H) ∨ ∃ k, xs = [.bl k] ∧ Q (.int (if k then 1 else 0)) H) tA) (.v true true) (gCB hInt1 gA) := ⟨pe_callTy call_int1 hg hm hv h.pa hn hdb he hpl, h.hK, se_cb scl_int1 csc_int1 h.sa⟩
theorem x_all {x : Str} {p : Pos} (hm : X.mg x = none) (h : AD X K W Δ (e :: es) tA av fr gA) (hc : X.calm = true := by rfl) (hv : bootBuiltins x = some (.builtin "all") := by decide +kernel) (hg : Gl X x := by rfl) (hn : x ≠ "__name__" := by decide) (hdb : (x == ("__debug__" : Str)) = false := by decide)
    (he : starEach (e :: es) X.env = (false, eval e X.env) :: starEach es X.env := by rfl) (hpl : (backTo pos (starEach es X.env)).any (·.1) = false := by rfl) :
    PD X K W Δ (.Call (.Name x p) (e :: es) [] pos) (tCB (rAll K) tA) (.v true true) (gCB hAll gA) := ⟨pe_callB (by have q := cr_all (X := X) hc; rw [h.hK] at q; exact q) hg hm hv h.pa hn hdb he hpl, h.hK, se_cb scl_all csc_all h.sa⟩
theorem x_any {x : Str} {p : Pos} (hm : X.mg x = none) (h : AD X K W Δ (e :: es) tA av fr gA) (hc : X.calm = true := by rfl) (hv : bootBuiltins x = some (.builtin "any") := by decide +kernel) (hg : Gl X x := by rfl) (hn : x ≠ "__name__" := by decide) (hdb : (x == ("__debug__" : Str)) = false := by decide)
    (he : starEach (e :: es) X.env = (false, eval e X.env) :: starEach es X.env := by rfl) (hpl : (backTo pos (starEach es X.env)).any (·.1) = false := by rfl) :
    PD X K W Δ (.Call (.Name x p) (e :: es) [] pos) (tCB (rAny K) tA) (.v true true) (gCB hAny gA) := ⟨pe_callB (by have q := cr_any (X := X) hc; rw [h.hK] at q; exact q) hg hm hv h.pa hn hdb he hpl, h.hK, se_cb scl_any csc_any h.sa⟩
theorem x_sum {x : Str} {p : Pos} (hm : X.mg x = none) (h : AD X K W Δ (e :: es) tA av fr gA) (hc : X.calm = true := by rfl) (hv : bootBuiltins x = some (.builtin "sum") := by decide +kernel) (hg : Gl X x := by rfl) (hn : x ≠ "__name__" := by decide) (hdb : (x == ("__debug__" : Str)) = false := by decide)
    (he : starEach (e :: es) X.env = (false, eval e X.env) :: starEach es X.env := by rfl) (hpl : (backTo pos (starEach es X.env)).any (·.1) = false := by rfl) :
    PD X K W Δ (.Call (.Name x p) (e :: es) [] pos) (tCB (rSum K) tA) (.v true true) (gCB hSum gA) := ⟨pe_callB (by have q := cr_sum (X := X) hc; rw [h.hK] at q; exact q) hg hm hv h.pa hn hdb he hpl, h.hK, se_cb scl_sum csc_sum h.sa⟩
end
end Sim
end T_SimC

section T_SimD
set_option Elab.async false
set_option linter.all false
set_option maxRecDepth 100000
/-! SimD: subscripts, slices, list + list, walks, targets, comprehensions. -/
namespace Sim
open PySem PySem.Spec L2
open PyProof.Rows hiding St

/-! ### lists that are laid anew -/
def cutD (xs : List Dt) (lo hi : Option Int) : List Dt := (xs.drop (HT.sIx xs.length 0 lo)).take (HT.sIx xs.length xs.length hi - HT.sIx xs.length 0 lo)
def hIx : Dt → Dt → O Dt := fun d e => match d, e with
  | .list ds, .int i => match atI ds i with
    | some z => .ok z
    | none => .bad
  | .tuple ds, .int i => match atI ds i with
    | some z => .ok z
    | none => .bad
  | .str z, .int i => if z.length ≤ 100000 then (match atI z.cps.toList i with
    | some c => .ok (.str ⟨#[c]⟩)
    | none => .bad) else .bad
  | _, _ => .bad
def hSl : Dt → Option Int → Option Int → O Dt := fun d lo hi => match d with
  | .list ds => .ok (.list (cutD ds lo hi))
  | _ => .bad
def hSlT : Dt → Option Int → Option Int → O Dt := fun d lo hi => match d with
  | .tuple ds => .ok (.tuple (cutD ds lo hi))
  | _ => .bad
def gSl (h : Dt → Option Int → Option Int → O Dt) (g : Gd) (gl gh : List Dt → O (Option Int)) : Gd := fun ρ => bnd (g ρ) fun d => bnd (gl ρ) fun lo => bnd (gh ρ) fun hi => h d lo hi
def gNoPart : List Dt → O (Option Int) := fun _ => .ok none
def gPart (g : Gd) : List Dt → O (Option Int) := fun ρ => bnd (g ρ) fun d => match d with
  | .int i => .ok (some i)
  | _ => .bad
def hCat : Dt → Dt → O Dt := fun d e => match d, e with
  | .list xs, .list ys => if xs.length + ys.length ≤ 100000 then .ok (.list (xs ++ ys)) else .bad
  | _, _ => .bad
def hRep : Dt → Dt → O Dt := fun d e => match d, e with
  | .list xs, .int k => if -(2 ^ 63) ≤ k ∧ k < 2 ^ 63 ∧ xs.length * k.toNat ≤ 100000 then .ok (.list (List.replicate k.toNat xs).flatten) else .bad
  | _, _ => .bad
def hListOf : Dt → O Dt := fun d => match d with
  | .list xs => .ok (.list xs)
  | .tuple xs => .ok (.list xs)
  | _ => .bad
def hTupOf : Dt → O Dt := fun d => match d with
  | .list xs => .ok (.tuple xs)
  | .tuple xs => .ok (.tuple xs)
  | _ => .bad
def isort (ns : List Int) : List Int := ns.mergeSort fun a b => decide (a ≤ b)
def hSorted : Dt → O Dt := fun d => match d with
  | .list xs => match allI xs with
    | some ns => .ok (.list ((isort ns).map .int))
    | none => .bad
  | _ => .bad
def one (h : Dt → O Dt) : List Dt → O Dt := fun ds => match ds with
  | [d] => h d
  | _ => .bad

section
variable {K : PySem.W.Frag} {W : Wt} {Δ : List Kd} {F : Addr → Prop} {H : Hp}

theorem RpA.ixN {vs : List V} {ds : List Dt} {i : Int} {z : Dt} (r : RpA K F H vs ds) (h : atI ds i = some z) : ∃ v, atI vs i = some v ∧ Rp K F H v z := by
  unfold atI at h ⊢
  rw [r.length]
  cases e : L2.ixN ds.length i with
  | none => rw [e] at h; cases h
  | some j =>
    rw [e] at h
    exact r.get' h
theorem Rp.sqt {v : V} {ds : List Dt} (h : Rp K F H v (.tuple ds)) : ∃ a xs, v = .ref a ∧ SqT K H a xs ∧ RpA K F H xs ds := by
  cases h with
  | tup h r => exact ⟨_, _, rfl, h, r⟩
theorem RpA.cut {vs : List V} {ds : List Dt} {lo hi : Option Int} (r : RpA K F H vs ds) : RpA K F H (cutV vs lo hi) (cutD ds lo hi) := by
  unfold cutV cutD
  rw [r.length]
  exact (r.drop _).take _

/-! ### x[i] -/
theorem se_ix {ta tb : TE} {ga gb : Gd} {av fr av' fr' : Bool} (ha : SE K W Δ ta (.v av fr) ga) (hb : SE K W Δ tb (.v av' fr') gb) : SE K W Δ (tOp (rIx K) ta tb) (.v av fr) (gOp hIx ga gb) := fun f ρ σ H Q R q => by
  refine ha f ρ σ H _ R ?_
  unfold gOp at q
  cases e1 : ga ρ with
  | bad => rw [e1] at q; exact q
  | ex z => rw [e1] at q; exact q
  | ok d =>
    rw [e1, bnd_ok] at q
    intro v H1 s1 x1
    refine hb f ρ σ H1 _ (R.mono s1) ?_
    cases e2 : gb ρ with
    | bad => rw [e2] at q; exact q
    | ex z => rw [e2] at q; exact fun H' s => q H' (s1.trans s)
    | ok d2 =>
      rw [e2, bnd_ok] at q
      intro v2 H2 s2 x2
      unfold hIx at q
      split at q
      · split at q
        · rename_i z hz
          obtain ⟨a, xs, rfl, hs, r⟩ := (x1.same s2).sql
          obtain ⟨w, hw, rw'⟩ := r.ixN hz
          rw [rpInt x2]
          exact .inl ⟨a, xs, _, w, rfl, rfl, hs, hw, q w H2 (s1.trans s2) rw'⟩
        · exact q.elim
      · split at q
        · rename_i z hz
          obtain ⟨a, xs, rfl, hs, r⟩ := (x1.same s2).sqt
          obtain ⟨w, hw, rw'⟩ := r.ixN hz
          rw [rpInt x2]
          exact .inr (.inl ⟨a, xs, _, w, rfl, rfl, hs, hw, q w H2 (s1.trans s2) rw'⟩)
        · exact q.elim
      · split at q
        · rename_i hl
          split at q
          · rename_i c hc
            rw [rpInt x2]
            cases x1
            exact .inr (.inr ⟨_, _, c, rfl, rfl, sz_le hl, hc, q _ H2 (s1.trans s2) (.str _)⟩)
          · exact q.elim
        · exact q.elim
      · exact q.elim
theorem se_ixO {ta tb : TE} {ga gb : Gd} {fr av' fr' : Bool} (ha : SE K W Δ ta (.o fr) ga) (hb : SE K W Δ tb (.v av' fr') gb) : SE K W Δ (tOp (rIx K) ta tb) (.v true fr) (gOp hIx ga gb) := fun f ρ σ H Q R q => by
  refine ha f ρ σ H _ R ?_
  unfold gOp at q
  cases e1 : ga ρ with
  | bad => rw [e1] at q; exact q
  | ex z => rw [e1] at q; exact q
  | ok d =>
    rw [e1, bnd_ok] at q
    intro p H1 vs ds ed s1 hp gp x1
    subst ed
    refine hb f ρ σ H1 _ (R.mono s1) ?_
    cases e2 : gb ρ with
    | bad => rw [e2] at q; exact q
    | ex z => rw [e2] at q; exact fun H' s => q H' (s1.trans s)
    | ok d2 =>
      rw [e2, bnd_ok] at q
      intro v2 H2 s2 x2
      unfold hIx at q
      cases d2 with
      | int i =>
        simp only at q
        cases hz : atI ds i with
        | some z =>
          rw [hz] at q
          obtain ⟨w, hw, rw'⟩ := (x1.same s2).ixN hz
          rw [rpInt x2]
          exact .inl ⟨p, vs, _, w, rfl, rfl, .inl (.inl (s2 _ _ hp)), hw, q w H2 (s1.trans s2) rw'⟩
        | none => rw [hz] at q; exact q.elim
      | _ => exact q.elim

/-! ### slices -/
abbrev TOp := L2.St → Hp → (Option Int → Hp → Prop) → Prop
def SO (K : PySem.W.Frag) (W : Wt) (Δ : List Kd) (to : TOp) (g : List Dt → O (Option Int)) : Prop := ∀ f ρ σ H Q, R K f Δ ρ σ H →
  (match g ρ with | .bad => False | .ex e => ∀ H', Same H H' → W e σ H' | .ok o => ∀ H', Same H H' → Q o H') → to σ H Q
theorem so_none : SO K W Δ tNoPart gNoPart := fun f ρ σ H Q R q => q H (Same.refl H)
theorem so_some {te : TE} {g : Gd} {av fr : Bool} (h : SE K W Δ te (.v av fr) g) : SO K W Δ (tPart te) (gPart g) := fun f ρ σ H Q R q => by
  refine h f ρ σ H _ R ?_
  unfold gPart at q
  cases e1 : g ρ with
  | bad => rw [e1] at q; exact q
  | ex z => rw [e1] at q; exact q
  | ok d =>
    rw [e1, bnd_ok] at q
    intro v H1 s1 x1
    cases d with
    | int i => rw [rpInt x1]; exact ⟨i, rfl, q H1 s1⟩
    | _ => exact q.elim
theorem se_sl {te : TE} {tl th : TOp} {g : Gd} {gl gh : List Dt → O (Option Int)} {fr : Bool} (h : SE K W Δ te (.v true fr) g) (h1 : SO K W Δ tl gl) (h2 : SO K W Δ th gh) : SE K W Δ (tSl (rSlL K) te tl th) (.new .l fr) (gSl hSl g gl gh) := fun f ρ σ H Q R q => by
  refine h f ρ σ H _ R ?_
  unfold gSl at q
  cases e1 : g ρ with
  | bad => rw [e1] at q; exact q
  | ex z => rw [e1] at q; exact q
  | ok d =>
    rw [e1, bnd_ok] at q
    intro v H1 s1 x1
    refine h1 f ρ σ H1 _ (R.mono s1) ?_
    cases e2 : gl ρ with
    | bad => rw [e2] at q; exact q
    | ex z => rw [e2] at q; exact fun H' s => q H' (s1.trans s)
    | ok lo =>
      rw [e2, bnd_ok] at q
      intro H2 s2
      refine h2 f ρ σ H2 _ ((R.mono s1).mono s2) ?_
      cases e3 : gh ρ with
      | bad => rw [e3] at q; exact q
      | ex z => rw [e3] at q; exact fun H' s => q H' ((s1.trans s2).trans s)
      | ok hi =>
        rw [e3, bnd_ok] at q
        intro H3 s3
        cases d with
        | list ds =>
          obtain ⟨a, xs, rfl, hs, r⟩ := (x1.same (s2.trans s3)).sql
          refine ⟨a, xs, rfl, hs, fun p np => ?_⟩
          have s123 := (s1.trans s2).trans s3
          exact q p _ (s123.free np) (s123.trans (same_upd np)) ⟨_, _, rfl, upd_same, (r.mono (same_upd np) fun a y z => ⟨y, fun e => z (e ▸ np)⟩).cut⟩
        | _ => exact q.elim
theorem se_slO {te : TE} {tl th : TOp} {g : Gd} {gl gh : List Dt → O (Option Int)} {fr : Bool} (h : SE K W Δ te (.o fr) g) (h1 : SO K W Δ tl gl) (h2 : SO K W Δ th gh) : SE K W Δ (tSl (rSlL K) te tl th) (.new .l fr) (gSl hSl g gl gh) := fun f ρ σ H Q R q => by
  refine h f ρ σ H _ R ?_
  unfold gSl at q
  cases e1 : g ρ with
  | bad => rw [e1] at q; exact q
  | ex z => rw [e1] at q; exact q
  | ok d =>
    rw [e1, bnd_ok] at q
    intro pp H1 vs ds ed s1 hp gp x1
    subst ed
    refine h1 f ρ σ H1 _ (R.mono s1) ?_
    cases e2 : gl ρ with
    | bad => rw [e2] at q; exact q
    | ex z => rw [e2] at q; exact fun H' s => q H' (s1.trans s)
    | ok lo =>
      rw [e2, bnd_ok] at q
      intro H2 s2
      refine h2 f ρ σ H2 _ ((R.mono s1).mono s2) ?_
      cases e3 : gh ρ with
      | bad => rw [e3] at q; exact q
      | ex z => rw [e3] at q; exact fun H' s => q H' ((s1.trans s2).trans s)
      | ok hi =>
        rw [e3, bnd_ok] at q
        intro H3 s3
        refine ⟨pp, vs, rfl, .inl (.inl (s3 _ _ (s2 _ _ hp))), fun p np => ?_⟩
        have s123 := (s1.trans s2).trans s3
        exact q p _ (s123.free np) (s123.trans (same_upd np)) ⟨_, _, rfl, upd_same, ((x1.same (s2.trans s3)).mono (same_upd np) fun a y z => ⟨y, fun e => z (e ▸ np)⟩).cut⟩
theorem cut_whole {α : Type} {n : Nat} {xs : List α} (hn : xs.length = n) {lo hi : Option Int} (h : HT.sIx n 0 lo = 0 ∧ HT.sIx n n hi = n) : (xs.drop (HT.sIx n 0 lo)).take (HT.sIx n n hi - HT.sIx n 0 lo) = xs := by
  rw [h.1, h.2, List.drop_zero, Nat.sub_zero]
  exact List.take_of_length_le (Nat.le_of_eq hn)
theorem se_slT {te : TE} {tl th : TOp} {g : Gd} {gl gh : List Dt → O (Option Int)} {av fr : Bool} (h : SE K W Δ te (.v av fr) g) (h1 : SO K W Δ tl gl) (h2 : SO K W Δ th gh) : SE K W Δ (tSl (rSlA K) te tl th) (.v av fr) (gSl hSlT g gl gh) := fun f ρ σ H Q R q => by
  refine h f ρ σ H _ R ?_
  unfold gSl at q
  cases e1 : g ρ with
  | bad => rw [e1] at q; exact q
  | ex z => rw [e1] at q; exact q
  | ok d =>
    rw [e1, bnd_ok] at q
    intro v H1 s1 x1
    refine h1 f ρ σ H1 _ (R.mono s1) ?_
    cases e2 : gl ρ with
    | bad => rw [e2] at q; exact q
    | ex z => rw [e2] at q; exact fun H' s => q H' (s1.trans s)
    | ok lo =>
      rw [e2, bnd_ok] at q
      intro H2 s2
      refine h2 f ρ σ H2 _ ((R.mono s1).mono s2) ?_
      cases e3 : gh ρ with
      | bad => rw [e3] at q; exact q
      | ex z => rw [e3] at q; exact fun H' s => q H' ((s1.trans s2).trans s)
      | ok hi =>
        rw [e3, bnd_ok] at q
        intro H3 s3
        cases d with
        | tuple ds =>
          obtain ⟨a, xs, rfl, hs, r⟩ := (x1.same (s2.trans s3)).sqt
          have s123 := (s1.trans s2).trans s3
          refine ⟨a, xs, rfl, hs, fun w => ?_, fun w p np => ?_⟩
          · refine q _ H3 s123 ?_
            have e : cutD ds lo hi = ds := by
              unfold cutD
              rw [← r.length]
              exact cut_whole (by rw [r.length]) w
            rw [e]
            exact .tup hs r
          · exact q _ _ (s123.trans (same_upd np)) (.tup (.inl (.inl upd_same)) (r.same (same_upd np)).cut)
        | _ => exact q.elim

/-! ### list + list, list * int, list(x), tuple(x), sorted -/
def rCatS (K : PySem.W.Frag) : R2 := fun x y H Q => ∃ l b xs zs, x = .ref l ∧ y = .ref b ∧ SqL K H l xs ∧ SqL K H b zs ∧ xs.length + zs.length ≤ sizeLine ∧ ∀ p, H p = none → Q (.ref p) (upd H p (.lst (xs ++ zs)))
theorem op_catS {X : Cx} : OpR X (binaryOp .Add) (rCatS X.K) := by
  intro pins s σ H x y v u Q I rx ry h
  obtain ⟨l, b, xs, zs, rfl, rfl, hH, hB, hz, q⟩ := h
  cases rx
  cases ry
  obtain ⟨its, r, ⟨⟨cls, dd, data, sl⟩, n, ho, hc, hd, hdt⟩, hl⟩ := I.list hH
  obtain ⟨its2, r2, ⟨⟨cls2, dd2, data2, sl2⟩, n2, ho2, hc2, hd2, hdt2⟩, hl2⟩ := I.list hB
  simp only at hc hdt hc2 hdt2
  subst hc hdt hc2 hdt2
  have ea : its.toArray ++ its2.toArray = (its ++ its2).toArray := by simp
  have e1 := r.length
  have e2 := r2.length
  refine concat_meets ⟨_, ho, rfl⟩ ⟨_, ho2, rfl⟩ noFill_list_add seq_list_add PySem.F.slot_list_add PySem.F.entry_list_add (PySem.F.args_list_add_2 _ _) (PyProof.Rows.list_addW l b its.toArray its2.toArray n n2 dd dd2 sl sl2 (by rw [List.size_toArray, List.size_toArray]; omega)) ⟨ho, ho2, ?_⟩
  rw [ea]
  exact ⟨.ref _, _, I.lnew (t' := s.toks) (r.append r2) (by rw [List.length_append]; omega), rfl, q _ I.fresh⟩
theorem se_cat {ta tb : TE} {ga gb : Gd} {fr fr' : Bool} (ha : SE K W Δ ta (.v true fr) ga) (hb : SE K W Δ tb (.v true fr') gb) : SE K W Δ (tOp (rCatS K) ta tb) (.new .l (fr && fr')) (gOp hCat ga gb) := fun f ρ σ H Q R q => by
  refine ha f ρ σ H _ R ?_
  unfold gOp at q
  cases e1 : ga ρ with
  | bad => rw [e1] at q; exact q
  | ex z => rw [e1] at q; exact q
  | ok d =>
    rw [e1, bnd_ok] at q
    intro v H1 s1 x1
    refine hb f ρ σ H1 _ (R.mono s1) ?_
    cases e2 : gb ρ with
    | bad => rw [e2] at q; exact q
    | ex z => rw [e2] at q; exact fun H' s => q H' (s1.trans s)
    | ok d2 =>
      rw [e2, bnd_ok] at q
      intro v2 H2 s2 x2
      unfold hCat at q
      split at q
      · split at q
        · rename_i hz
          obtain ⟨a, xs, rfl, hs, r⟩ := (x1.same s2).sql
          obtain ⟨b, ys, rfl, hs2, r2⟩ := x2.sql
          refine ⟨a, b, xs, ys, rfl, rfl, hs, hs2, sz_le (by rw [r.length, r2.length]; exact hz), fun p np => ?_⟩
          have s12 := s1.trans s2
          refine q p _ (s12.free np) (s12.trans (same_upd np)) ⟨_, _, rfl, upd_same, ?_⟩
          exact (r.mono (same_upd np) fun a y z => ⟨y.weak id (fun h => (Bool.and_eq_true_iff.mp h).1), fun e => z (e ▸ np)⟩).append
            (r2.mono (same_upd np) fun a y z => ⟨y.weak id (fun h => (Bool.and_eq_true_iff.mp h).2), fun e => z (e ▸ np)⟩)
        · exact q.elim
      · exact q.elim
theorem se_catO {ta tb : TE} {ga gb : Gd} {fr fr' : Bool} (ha : SE K W Δ ta (.o fr) ga) (hb : SE K W Δ tb (.v true fr') gb) : SE K W Δ (tOp (rCatS K) ta tb) (.new .l (fr && fr')) (gOp hCat ga gb) := fun f ρ σ H Q R q => by
  refine ha f ρ σ H _ R ?_
  unfold gOp at q
  cases e1 : ga ρ with
  | bad => rw [e1] at q; exact q
  | ex z => rw [e1] at q; exact q
  | ok d =>
    rw [e1, bnd_ok] at q
    intro pp H1 vs ds ed s1 hp gp x1
    subst ed
    refine hb f ρ σ H1 _ (R.mono s1) ?_
    cases e2 : gb ρ with
    | bad => rw [e2] at q; exact q
    | ex z => rw [e2] at q; exact fun H' s => q H' (s1.trans s)
    | ok d2 =>
      rw [e2, bnd_ok] at q
      intro v2 H2 s2 x2
      cases d2 with
      | list es =>
        unfold hCat at q
        simp only at q
        by_cases hz : ds.length + es.length ≤ 100000
        · rw [if_pos hz] at q
          obtain ⟨b, ys, rfl, hs2, r2⟩ := x2.sql
          have r := x1.same s2
          refine ⟨pp, b, vs, ys, rfl, rfl, .inl (.inl (s2 _ _ hp)), hs2, sz_le (by rw [r.length, r2.length]; exact hz), fun p np => ?_⟩
          have s12 := s1.trans s2
          refine q p _ (s12.free np) (s12.trans (same_upd np)) ⟨_, _, rfl, upd_same, ?_⟩
          exact (r.mono (same_upd np) fun a y z => ⟨y.weak id (fun h => (Bool.and_eq_true_iff.mp h).1), fun e => z (e ▸ np)⟩).append
            (r2.mono (same_upd np) fun a y z => ⟨y.weak id (fun h => (Bool.and_eq_true_iff.mp h).2), fun e => z (e ▸ np)⟩)
        · rw [if_neg hz] at q
          exact q.elim
      | _ => exact q.elim
theorem se_rep {ta tb : TE} {ga gb : Gd} {fr av' fr' : Bool} (ha : SE K W Δ ta (.new .l fr) ga) (hb : SE K W Δ tb (.v av' fr') gb) : SE K W Δ (tOp rRep ta tb) (.new .l fr) (gOp hRep ga gb) := fun f ρ σ H Q R q => by
  refine ha f ρ σ H _ R ?_
  unfold gOp at q
  cases e1 : ga ρ with
  | bad => rw [e1] at q; exact q
  | ex z => rw [e1] at q; exact q
  | ok d =>
    rw [e1, bnd_ok] at q
    intro pp H1 npp s1 x1
    obtain ⟨vs, ds, ed, hp, x1⟩ := x1
    subst ed
    refine hb f ρ σ H1 _ (R.mono s1) ?_
    cases e2 : gb ρ with
    | bad => rw [e2] at q; exact q
    | ex z => rw [e2] at q; exact fun H' s => q H' (s1.trans s)
    | ok d2 =>
      rw [e2, bnd_ok] at q
      intro v2 H2 s2 x2
      cases d2 with
      | int k =>
        unfold hRep at q
        simp only at q
        by_cases hz : -(2 ^ 63) ≤ k ∧ k < 2 ^ 63 ∧ ds.length * k.toNat ≤ 100000
        · rw [if_pos hz] at q
          have r := x1.same s2
          rw [rpInt x2]
          refine ⟨pp, k, vs, rfl, rfl, s2 _ _ hp, hz.1, hz.2.1, sz_le (by rw [r.length]; exact hz.2.2), fun p np => ?_⟩
          have s12 := s1.trans s2
          exact q p _ (s12.free np) (s12.trans (same_upd np)) ⟨_, _, rfl, upd_same, (r.mono (same_upd np) fun a y z => ⟨y.1, fun e => z (e ▸ np)⟩).flat _⟩
        · rw [if_neg hz] at q
          exact q.elim
      | _ => exact q.elim
theorem one_eq {h : Dt → O Dt} {ds : List Dt} : (∃ d, ds = [d] ∧ one h ds = h d) ∨ one h ds = .bad := by
  match ds with
  | [] => exact .inr rfl
  | [d] => exact .inl ⟨d, rfl, rfl⟩
  | _ :: _ :: _ => exact .inr rfl
/-- a new list of what one argument holds -/
def rListOf (K : PySem.W.Frag) : List V → Hp → VK → Prop := fun xs H Q => ∃ p ys, xs = [.ref p] ∧ (SqL K H p ys ∨ SqT K H p ys) ∧ ∀ l, H l = none → Q (.ref l) (upd H l (.lst ys))
theorem se_listOf {tA : TA} {gA : List Dt → O (List Dt)} {fr : Bool} (ha : SA K W Δ tA true fr gA) : SE K W Δ (tCB (rListOf K) tA) (.new .l fr) (gCB (one hListOf) gA) := fun f ρ σ H Q R q => by
  refine ha f ρ σ H _ R ?_
  unfold gCB at q
  cases e1 : gA ρ with
  | bad => rw [e1] at q; exact q
  | ex z => rw [e1] at q; exact q
  | ok ds =>
    rw [e1, bnd_ok] at q
    intro vs H1 s1 x1
    rcases one_eq (h := hListOf) (ds := ds) with ⟨d, rfl, e⟩ | e
    · rw [e] at q
      cases x1 with
      | cons x1 xr =>
        cases xr
        cases d with
        | list es =>
          obtain ⟨a, xs, rfl, hs, r⟩ := x1.sql
          exact ⟨a, xs, rfl, .inl hs, fun l nl => q l _ (s1.free nl) (s1.trans (same_upd nl)) ⟨_, _, rfl, upd_same, r.mono (same_upd nl) fun a y z => ⟨y, fun e => z (e ▸ nl)⟩⟩⟩
        | tuple es =>
          obtain ⟨a, xs, rfl, hs, r⟩ := x1.sqt
          exact ⟨a, xs, rfl, .inr hs, fun l nl => q l _ (s1.free nl) (s1.trans (same_upd nl)) ⟨_, _, rfl, upd_same, r.mono (same_upd nl) fun a y z => ⟨y, fun e => z (e ▸ nl)⟩⟩⟩
        | _ => exact q.elim
    · rw [e] at q
      exact q.elim
/-- list(own) -/
theorem se_listOwn {te : TE} {g : Gd} {fr : Bool} (ha : SE K W Δ te (.o fr) g) : SE K W Δ (tCB (rListOf K) (tCons te tNil)) (.new .l fr) (gCB (one hListOf) (gCons g gNil)) := fun f ρ σ H Q R q => by
  refine ha f ρ σ H _ R ?_
  unfold gCB gCons gNil at q
  cases e1 : g ρ with
  | bad => rw [e1] at q; exact q
  | ex z => rw [e1] at q; exact q
  | ok d =>
    rw [e1, bnd_ok, bnd_ok, bnd_ok] at q
    intro p H1 vs ds ed s1 hp gp x1
    subst ed
    exact ⟨p, vs, rfl, .inl (.inl (.inl hp)), fun l nl => q l _ (s1.free nl) (s1.trans (same_upd nl)) ⟨_, _, rfl, upd_same, x1.mono (same_upd nl) fun a y z => ⟨y, fun e => z (e ▸ nl)⟩⟩⟩
theorem se_tupOf {tA : TA} {gA : List Dt → O (List Dt)} {av fr : Bool} (ha : SA K W Δ tA av fr gA) : SE K W Δ (tCB (fun xs H Q => ∃ p ys, xs = [.ref p] ∧ ((SqL K H p ys ∧ ∀ l, H l = none → Q (.ref l) (upd H l (.tup ys))) ∨ (SqT K H p ys ∧ Q (.ref p) H))) tA) (.v av fr) (gCB (one hTupOf) gA) := fun f ρ σ H Q R q => by
  refine ha f ρ σ H _ R ?_
  unfold gCB at q
  cases e1 : gA ρ with
  | bad => rw [e1] at q; exact q
  | ex z => rw [e1] at q; exact q
  | ok ds =>
    rw [e1, bnd_ok] at q
    intro vs H1 s1 x1
    rcases one_eq (h := hTupOf) (ds := ds) with ⟨d, rfl, e⟩ | e
    · rw [e] at q
      cases x1 with
      | cons x1 xr =>
        cases xr
        cases d with
        | list es =>
          obtain ⟨a, xs, rfl, hs, r⟩ := x1.sql
          exact ⟨a, xs, rfl, .inl ⟨hs, fun l nl => q _ _ (s1.trans (same_upd nl)) (.tup (.inl (.inl upd_same)) (r.same (same_upd nl)))⟩⟩
        | tuple es =>
          obtain ⟨a, xs, rfl, hs, r⟩ := x1.sqt
          exact ⟨a, xs, rfl, .inr ⟨hs, q _ _ s1 (.tup hs r)⟩⟩
        | _ => exact q.elim
    · rw [e] at q
      exact q.elim
theorem isort_perm (ns : List Int) : (isort ns).Perm ns := List.mergeSort_perm _ _
theorem isort_sorted (ns : List Int) : (isort ns).Pairwise (· ≤ ·) := by
  have h := List.pairwise_mergeSort (le := fun (a b : Int) => decide (a ≤ b)) (fun a b c h1 h2 => by
    rw [decide_eq_true_eq] at *; omega) (fun a b => by
    rw [Bool.or_eq_true, decide_eq_true_eq, decide_eq_true_eq]; omega) ns
  exact h.imp fun h => of_decide_eq_true h
theorem sorted_unique : ∀ {a b : List Int}, a.Perm b → a.Pairwise (· ≤ ·) → b.Pairwise (· ≤ ·) → a = b
  | [], b, p, _, _ => (List.Perm.nil_eq p)
  | x :: a, [], p, _, _ => absurd p.length_eq (by simp)
  | x :: a, y :: b, p, ha, hb => by
    have h1 : y ≤ x := by
      have : x ∈ y :: b := p.subset List.mem_cons_self
      rcases List.mem_cons.mp this with e | h
      · omega
      · exact (List.pairwise_cons.mp hb).1 x h
    have h2 : x ≤ y := by
      have : y ∈ x :: a := p.symm.subset List.mem_cons_self
      rcases List.mem_cons.mp this with e | h
      · omega
      · exact (List.pairwise_cons.mp ha).1 y h
    have e : x = y := by omega
    subst e
    rw [sorted_unique (List.Perm.cons_inv p) (List.pairwise_cons.mp ha).2 (List.pairwise_cons.mp hb).2]
theorem rpA_ints {F : Addr → Prop} {H : Hp} : ∀ ns : List Int, RpA K F H (ns.map V.int) (ns.map PyData.int)
  | [] => .nil
  | n :: ns => .cons (.int n) (rpA_ints ns)
theorem se_sorted {tA : TA} {gA : List Dt → O (List Dt)} {av fr : Bool} (ha : SA K W Δ tA av fr gA) : SE K W Δ (tCB (rSortedI K) tA) (.new .l true) (gCB (one hSorted) gA) := fun f ρ σ H Q R q => by
  refine ha f ρ σ H _ R ?_
  unfold gCB at q
  cases e1 : gA ρ with
  | bad => rw [e1] at q; exact q
  | ex z => rw [e1] at q; exact q
  | ok ds =>
    rw [e1, bnd_ok] at q
    intro vs H1 s1 x1
    rcases one_eq (h := hSorted) (ds := ds) with ⟨d, rfl, e⟩ | e
    · rw [e] at q
      cases x1 with
      | cons x1 xr =>
        cases xr
        cases d with
        | list es =>
          unfold hSorted at q
          simp only at q
          cases ea : allI es with
          | none => rw [ea] at q; exact q.elim
          | some ns =>
            rw [ea] at q
            obtain ⟨a, xs, rfl, hs, r⟩ := x1.sql
            rw [rp_ints r ea] at hs
            refine ⟨a, ns, rfl, hs, fun ns' l p1 p2 nl => ?_⟩
            have e2 : ns' = isort ns := sorted_unique (p1.trans (isort_perm ns).symm) p2 (isort_sorted ns)
            subst e2
            exact q l _ (s1.free nl) (s1.trans (same_upd nl)) ⟨_, _, rfl, upd_same, rpA_ints _⟩
        | _ => exact q.elim
    · rw [e] at q
      exact q.elim
end

/-! ### what is walked -/
def Sc (K : PySem.W.Frag) (J : It) (pf : Option (Addr × HO)) (vs : List V) (es ds : List Dt) : Prop :=
  Walk J ds.length (fun H => (∀ q, pf = some q → H q.1 = some q.2) ∧ ∃ F, RpA K F H vs es) (fun i H x H' => Same H H' ∧ ∀ F, RpA K F H vs es → ∃ e, ds[i]? = some e ∧ Rp K F H' x e)
def SI (K : PySem.W.Frag) (W : Wt) (Δ : List Kd) (wi : TI) (b fr : Bool) (g : List Dt → O (List Dt)) : Prop := ∀ f ρ σ H Rk, R K f Δ ρ σ H →
  (match g ρ with
    | .bad => False
    | .ex e => ∀ H', Same H H' → W e σ H'
    | .ok ds => ∀ J H' pf vs es, Same H H' → (b = false → pf = none) → (∀ q, pf = some q → H' q.1 = some q.2) → RpA K (FM f Δ σ true fr) H' vs es → Sc K J pf vs es ds → Rk J H') → wi σ H Rk
structure ID (X : Cx) (K : PySem.W.Frag) (W : Wt) (Δ : List Kd) (tg iter : Expr) (wi : TI) (b fr : Bool) (g : List Dt → O (List Dt)) : Prop where
  pi : PI X tg iter wi
  hK : X.K = K
  si : SI K W Δ wi b fr g

def gSeq (g : Gd) : List Dt → O (List Dt) := fun ρ => bnd (g ρ) fun d => match d with
  | .list ds => .ok ds
  | .tuple ds => .ok ds
  | _ => .bad
def rangeD (lo hi : Int) : List Dt := (List.range (hi - lo).toNat).map fun (i : Nat) => .int (lo + (i : Int))
def rng1 : List Dt → Option (Int × Int)
  | [.int j] => if -(2 ^ 62) ≤ j ∧ j < 2 ^ 62 then some (0, j) else none
  | _ => none
def rng2 : List Dt → Option (Int × Int)
  | [.int i, .int j] => if -(2 ^ 62) ≤ i ∧ i < 2 ^ 62 ∧ -(2 ^ 62) ≤ j ∧ j < 2 ^ 62 then some (i, j) else none
  | _ => none
def gRng1 (g : List Dt → O (List Dt)) : List Dt → O (List Dt) := fun ρ => bnd (g ρ) fun ds => match rng1 ds with
  | some p => .ok (rangeD p.1 p.2)
  | none => .bad
def gRng2 (g : List Dt → O (List Dt)) : List Dt → O (List Dt) := fun ρ => bnd (g ρ) fun ds => match rng2 ds with
  | some p => .ok (rangeD p.1 p.2)
  | none => .bad

def iSeq (K : PySem.W.Frag) (tl : TE) : TI := fun σ H R => tl σ H fun x H1 => ∃ a, x = .ref a ∧ (((∃ xs, SqL K H1 a xs) ∧ R (Itl K a) H1) ∨ ((∃ xs, SqT K H1 a xs) ∧ R (Itt K a) H1))
theorem pi_seq {X : Cx} {tg l : Expr} {tl : TE} (hl : PE X l tl) : PI X tg l (iSeq X.K tl) := by
  refine ⟨fun pins s σ H R I h => ?_⟩
  refine thn (hl.run pins s σ H _ I h) fun v s1 ⟨x, H1, I1, r1, q1⟩ => ?_
  obtain ⟨a, e, q⟩ := q1
  subst e
  cases r1
  rcases q with ⟨⟨xs, hq⟩, q⟩ | ⟨⟨xs, hq⟩, q⟩
  · obtain ⟨its, rv, p, hz⟩ := I1.list hq
    refine wpAny_pyIter_list p.isList ?_
    refine ⟨s1.heap.objs.size, [s1.heap.objs.size], _, _, H1, rfl, I1.kept (t' := s1.toks) fun b o e => Heap.get?_push_of_some _ e, turn_list a _, ⟨_, Heap.get?_push_size _ rfl, rfl, rfl⟩, fun b hb => ?_, q⟩
    have e : b = s1.heap.objs.size := by simpa using hb
    subst e
    exact I1.fpOk (Nat.le_refl _) (I1.hok.fresh (Nat.le_refl _))
  · obtain ⟨its, rv, p, hz⟩ := I1.tuple hq
    refine wpAny_pyIter_tuple (show s1.heap.IsTuple a its.toArray from p) ?_
    refine ⟨s1.heap.objs.size, [s1.heap.objs.size], _, _, H1, rfl, I1.kept (t' := s1.toks) fun b o e => Heap.get?_push_of_some _ e, turn_tuple a _, ⟨_, Heap.get?_push_size _ rfl, rfl, rfl⟩, fun b hb => ?_, q⟩
    have e : b = s1.heap.objs.size := by simpa using hb
    subst e
    exact I1.fpOk (Nat.le_refl _) (I1.hok.fresh (Nat.le_refl _))

section
variable {K : PySem.W.Frag} {W : Wt} {Δ : List Kd}
theorem sc_list {a : Addr} {ds : List Dt} : Sc K (Itl K a) none [.ref a] [.list ds] ds where
  goes := fun i H hi ⟨_, F, r⟩ => by
    cases r with
    | cons h _ =>
      obtain ⟨b, xs, e, hs, r⟩ := h.sql
      cases e
      have hx : i < xs.length := by rw [r.length]; exact hi
      exact ⟨xs, xs[i], hs, List.getElem?_eq_getElem hx⟩
  stops := fun H ⟨_, F, r⟩ => by
    cases r with
    | cons h _ =>
      obtain ⟨b, xs, e, hs, r⟩ := h.sql
      cases e
      exact ⟨xs, hs, Nat.le_of_eq r.length⟩
  yields := fun i H x H' hi _ y => by
    obtain ⟨e, y⟩ := y
    subst e
    refine ⟨Same.refl _, fun F r => ?_⟩
    cases r with
    | cons h _ =>
      obtain ⟨b, xs, e, hs, r⟩ := h.sql
      cases e
      exact r.get (y xs hs)
theorem sc_tup {a : Addr} {ds : List Dt} : Sc K (Itt K a) none [.ref a] [.tuple ds] ds where
  goes := fun i H hi ⟨_, F, r⟩ => by
    cases r with
    | cons h _ =>
      obtain ⟨b, xs, e, hs, r⟩ := h.sqt
      cases e
      have hx : i < xs.length := by rw [r.length]; exact hi
      exact ⟨xs, xs[i], hs, List.getElem?_eq_getElem hx⟩
  stops := fun H ⟨_, F, r⟩ => by
    cases r with
    | cons h _ =>
      obtain ⟨b, xs, e, hs, r⟩ := h.sqt
      cases e
      exact ⟨xs, hs, Nat.le_of_eq r.length⟩
  yields := fun i H x H' hi _ y => by
    obtain ⟨e, y⟩ := y
    subst e
    refine ⟨Same.refl _, fun F r => ?_⟩
    cases r with
    | cons h _ =>
      obtain ⟨b, xs, e, hs, r⟩ := h.sqt
      cases e
      exact r.get (y xs hs)
theorem sc_own {a : Addr} {vs : List V} {ds : List Dt} (hl : vs.length = ds.length) : Sc K (Itl K a) (some (a, .lst vs)) vs ds ds where
  goes := fun i H hi ⟨h, F, r⟩ => by
    have hx : i < vs.length := by rw [r.length]; exact hi
    exact ⟨vs, vs[i], .inl (.inl (h _ rfl)), List.getElem?_eq_getElem hx⟩
  stops := fun H ⟨h, F, r⟩ => ⟨vs, .inl (.inl (h _ rfl)), Nat.le_of_eq hl⟩
  yields := fun i H x H' hi ⟨h, _⟩ y => by
    obtain ⟨e, y⟩ := y
    subst e
    exact ⟨Same.refl _, fun F r => r.get (y vs (.inl (.inl (h _ rfl))))⟩
theorem rangeD_len (lo hi : Int) : (rangeD lo hi).length = (hi - lo).toNat := by unfold rangeD; simp
theorem sc_range {lo hi : Int} : Sc K (Itr lo (hi - lo).toNat) none [] [] (rangeD lo hi) where
  goes := fun i H hi' _ => by rw [rangeD_len] at hi'; exact hi'
  stops := fun H _ => by rw [rangeD_len]; exact Nat.le_refl _
  yields := fun i H x H' hi' _ y => by
    obtain ⟨e, y⟩ := y
    subst e y
    refine ⟨Same.refl _, fun F r => ⟨_, ?_, .int _⟩⟩
    rw [rangeD_len] at hi'
    unfold rangeD
    rw [List.getElem?_map, List.getElem?_range hi']
    rfl
theorem si_seq {te : TE} {g : Gd} {fr : Bool} (h : SE K W Δ te (.v true fr) g) : SI K W Δ (iSeq K te) false fr (gSeq g) := fun f ρ σ H Rk R q => by
  refine h f ρ σ H _ R ?_
  unfold gSeq at q
  cases e1 : g ρ with
  | bad => rw [e1] at q; exact q
  | ex z => rw [e1] at q; exact q
  | ok d =>
    rw [e1, bnd_ok] at q
    intro v H1 s1 x1
    cases d with
    | list ds =>
      obtain ⟨a, xs, rfl, hs, r⟩ := x1.sql
      exact ⟨a, rfl, .inl ⟨⟨xs, hs⟩, q _ H1 none [.ref a] [.list ds] s1 (fun _ => rfl) (fun _ e => nomatch e) (.cons x1 .nil) sc_list⟩⟩
    | tuple ds =>
      obtain ⟨a, xs, rfl, hs, r⟩ := x1.sqt
      exact ⟨a, rfl, .inr ⟨⟨xs, hs⟩, q _ H1 none [.ref a] [.tuple ds] s1 (fun _ => rfl) (fun _ e => nomatch e) (.cons x1 .nil) sc_tup⟩⟩
    | _ => exact q.elim
theorem si_own {te : TE} {g : Gd} {fr : Bool} (h : SE K W Δ te (.o fr) g) : SI K W Δ (iSeq K te) true fr (gSeq g) := fun f ρ σ H Rk R q => by
  refine h f ρ σ H _ R ?_
  unfold gSeq at q
  cases e1 : g ρ with
  | bad => rw [e1] at q; exact q
  | ex z => rw [e1] at q; exact q
  | ok d =>
    rw [e1, bnd_ok] at q
    intro p H1 vs ds ed s1 hp gp x1
    subst ed
    exact ⟨p, rfl, .inl ⟨⟨vs, .inl (.inl hp)⟩, q _ H1 (some (p, .lst vs)) vs ds s1 (fun e => nomatch e) (fun _ e => by cases e; exact hp) x1 (sc_own x1.length)⟩⟩
theorem si_rng1 {tA : TA} {gA : List Dt → O (List Dt)} {av fr : Bool} (h : SA K W Δ tA av fr gA) : SI K W Δ (iRng1 tA) false true (gRng1 gA) := fun f ρ σ H Rk R q => by
  refine h f ρ σ H _ R ?_
  unfold gRng1 at q
  cases e1 : gA ρ with
  | bad => rw [e1] at q; exact q
  | ex z => rw [e1] at q; exact q
  | ok ds =>
    rw [e1, bnd_ok] at q
    intro vs H1 s1 x1
    cases er : rng1 ds with
    | none => rw [er] at q; exact q.elim
    | some p =>
      rw [er] at q
      unfold rng1 at er
      split at er
      · split at er
        · rename_i j c
          cases er
          cases x1 with
          | cons x1 xr =>
            cases xr
            rw [rpInt x1]
            refine ⟨j, rfl, c.1, c.2, ?_⟩
            have w := q (Itr 0 (j - 0).toNat) H1 none [] [] s1 (fun _ => rfl) (fun _ e => nomatch e) .nil sc_range
            rw [Int.sub_zero] at w
            exact w
        · cases er
      · cases er

theorem si_rng2 {tA : TA} {gA : List Dt → O (List Dt)} {av fr : Bool} (h : SA K W Δ tA av fr gA) : SI K W Δ (iRng2 tA) false true (gRng2 gA) := fun f ρ σ H Rk R q => by
  refine h f ρ σ H _ R ?_
  unfold gRng2 at q
  cases e1 : gA ρ with
  | bad => rw [e1] at q; exact q
  | ex z => rw [e1] at q; exact q
  | ok ds =>
    rw [e1, bnd_ok] at q
    intro vs H1 s1 x1
    cases er : rng2 ds with
    | none => rw [er] at q; exact q.elim
    | some p =>
      rw [er] at q
      unfold rng2 at er
      split at er
      · split at er
        · rename_i i j c
          cases er
          cases x1 with
          | cons x1 xr =>
            cases xr with
            | cons x2 xr =>
              cases xr
              rw [rpInt x1, rpInt x2]
              exact ⟨i, j, rfl, c, q (Itr i (j - i).toNat) H1 none [] [] s1 (fun _ => rfl) (fun _ e => nomatch e) .nil sc_range⟩
        · cases er
      · cases er

end
end Sim
end T_SimD

section T_SimE
set_option Elab.async false
set_option linter.all false
set_option maxRecDepth 100000
/-! SimE: targets, comprehensions, calls. -/
namespace Sim
open PySem PySem.Spec L2
open PyProof.Rows hiding St

/-! ### weaker kinds -/
def bLe (a b : Bool) : Bool := !b || a
def kLe : Kd → Kd → Bool
  | _, .no => true
  | .im a, .im b => bLe a b
  | .own .l a, .im b => bLe a b
  | .own .l a, .own .l b => bLe a b
  | .own .dk a, .own .dk b => bLe a b
  | .own .dt a, .own .dt b => bLe a b
  | .own .la a, .own .la b => bLe a b
  | .own .ka a, .own .ka b => bLe a b
  | _, _ => false
def leA : List Kd → List Kd → Bool
  | [], [] => true
  | k :: ks, l :: ls => kLe k l && leA ks ls
  | _, _ => false
theorem bLe_imp {a b : Bool} (h : bLe a b = true) : b = true → a = true := fun e => by subst e; cases a; cases h; rfl
theorem leA_len : ∀ {Δ Δ' : List Kd}, leA Δ Δ' = true → Δ.length = Δ'.length
  | [], [], _ => rfl
  | [], _ :: _, h => by cases h
  | _ :: _, [], h => by cases h
  | k :: ks, l :: ls, h => by
    unfold leA at h
    rw [Bool.and_eq_true] at h
    rw [List.length_cons, List.length_cons, leA_len h.2]
theorem leA_get : ∀ {Δ Δ' : List Kd}, leA Δ Δ' = true → ∀ {i : Nat} {k' : Kd}, Δ'[i]? = some k' → ∃ k, Δ[i]? = some k ∧ kLe k k' = true
  | [], [], _, i, k', h => by simp at h
  | [], _ :: _, h, _, _, _ => by cases h
  | _ :: _, [], h, _, _, _ => by cases h
  | k :: ks, l :: ls, h, 0, k', e => by
    unfold leA at h
    rw [Bool.and_eq_true] at h
    simp at e; subst e
    exact ⟨k, rfl, h.1⟩
  | k :: ks, l :: ls, h, i + 1, k', e => by
    unfold leA at h
    rw [Bool.and_eq_true] at h
    obtain ⟨q, h1, h2⟩ := leA_get h.2 (i := i) (k' := k') (by simpa using e)
    exact ⟨q, by simpa using h1, h2⟩
theorem kLe_own {k : Kd} {c : Ct} {fr : Bool} (h : kLe k (.own c fr) = true) : ∃ fr', k = .own c fr' ∧ (fr = true → fr' = true) := by
  cases k with
  | no => cases c <;> cases h
  | im a => cases c <;> cases h
  | own c' a => cases c' <;> cases c <;> first | (cases h; done) | exact ⟨a, rfl, bLe_imp h⟩
theorem kLe_im {k : Kd} {fr : Bool} (h : kLe k (.im fr) = true) : (∃ fr', k = .im fr' ∧ (fr = true → fr' = true)) ∨ ∃ fr', k = .own .l fr' ∧ (fr = true → fr' = true) := by
  cases k with
  | no => cases h
  | im a => exact .inl ⟨a, rfl, bLe_imp h⟩
  | own c' a => cases c' <;> first | (cases h; done) | exact .inr ⟨a, rfl, bLe_imp h⟩

section
variable {K : PySem.W.Frag} {f : Fm} {Δ Δ' : List Kd} {ρ : List Dt} {σ σ' : L2.St} {H : Hp}
theorem R.weak (r : R K f Δ ρ σ H) (h : leA Δ Δ' = true) : R K f Δ' ρ σ H := by
  have ow' : ∀ a, Ow Δ' σ a → Ow Δ σ a := fun a ⟨i, c, fr, h1, h2⟩ => by
    obtain ⟨k, e, hk⟩ := leA_get h h1
    obtain ⟨fr', rfl, _⟩ := kLe_own hk
    exact ⟨i, c, fr', e, h2⟩
  have key : ∀ {fr fr' : Bool} {v : V} {d : Dt}, (fr' = true → fr = true) → Rp K (FM f Δ σ true fr) H v d → Rp K (FM f Δ' σ true fr') H v d := fun hf h =>
    h.weak fun a fa => ⟨fun _ => ⟨fun z => (fa.1 rfl).1 (ow' a z), (fa.1 rfl).2⟩, fun e => fa.2 (hf e)⟩
  refine ⟨r.ext, r.g0, by rw [r.lσ, leA_len h], by rw [r.lρ, leA_len h], ?_, fun a ha => ⟨(r.pin a ha).1, fun z => (r.pin a ha).2 (ow' a z)⟩, fun g hg => (r.gh g hg).map fun _ _ x => key id x, fun i fr h' => ?_, fun i c fr h' => ?_, fun i c fr h' ha => ?_⟩
  · intro i j ci fi cj fj p h1 h2 h3 h4
    obtain ⟨k, e, hk⟩ := leA_get h h1
    obtain ⟨fr', rfl, _⟩ := kLe_own hk
    obtain ⟨k2, e2, hk2⟩ := leA_get h h2
    obtain ⟨fr2, rfl, _⟩ := kLe_own hk2
    exact r.inj i j _ _ _ _ p e e2 h3 h4
  · obtain ⟨k, e, hk⟩ := leA_get h h'
    rcases kLe_im hk with ⟨fr', rfl, hf⟩ | ⟨fr', rfl, hf⟩
    · obtain ⟨v, d, h1, h2, h3⟩ := r.im i fr' e
      exact ⟨v, d, h1, h2, key hf h3⟩
    · obtain ⟨p, d, h1, h2, h3, vs, ds, ed, hp, h4⟩ := r.ow i .l fr' e
      subst ed
      refine ⟨.ref p, _, h1, h2, .lst hp ⟨fun _ => ⟨fun z => ?_, fun z => ?_⟩, fun _ => r.g0 p h3⟩ (h4.map fun _ _ x => key hf x)⟩
      · obtain ⟨j, c, frj, g1, g2⟩ := z
        obtain ⟨k2, e2, hk2⟩ := leA_get h g1
        obtain ⟨fr2, rfl, _⟩ := kLe_own hk2
        have ij := r.inj i j _ _ _ _ p e e2 h1 g2
        subst ij
        rw [h'] at g1
        cases g1
      · exact (r.pin p z).2 ⟨i, .l, fr', e, h1⟩
  · obtain ⟨k, e, hk⟩ := leA_get h h'
    obtain ⟨fr', rfl, hf⟩ := kLe_own hk
    obtain ⟨p, d, h1, h2, h3, h4⟩ := r.ow i c fr' e
    exact ⟨p, d, h1, h2, h3, h4.map (fun o e => e) fun _ _ x => key hf x⟩
  · obtain ⟨k, e, hk⟩ := leA_get h h'
    obtain ⟨fr', rfl, hf⟩ := kLe_own hk
    exact r.ar i c fr' e ha

/-! ### targets -/
structure TgOk (K : PySem.W.Frag) (f : Fm) (Δ Δ' : List Kd) (ρ' : List Dt) (σ σ' : L2.St) (H : Hp) (sl : List Nat) : Prop where
  r : R K f Δ' ρ' σ' H
  keep : ∀ i, i ∉ sl → Δ'[i]? = Δ[i]? ∧ σ'[i]? = σ[i]?
  im : ∀ i, i ∈ sl → ∃ fr, Δ'[i]? = some (.im fr)
  len : Δ'.length = Δ.length
theorem TgOk.ow {ρ' : List Dt} {sl : List Nat} (t : TgOk K f Δ Δ' ρ' σ σ' H sl) {a : Addr} (h : Ow Δ' σ' a) : Ow Δ σ a := by
  obtain ⟨i, c, fr, h1, h2⟩ := h
  by_cases z : i ∈ sl
  · obtain ⟨fr', e⟩ := t.im i z
    rw [e] at h1; cases h1
  · obtain ⟨e1, e2⟩ := t.keep i z
    exact ⟨i, c, fr, e1 ▸ h1, e2 ▸ h2⟩
theorem TgOk.ow' {ρ' : List Dt} {sl : List Nat} (t : TgOk K f Δ Δ' ρ' σ σ' H sl) (no : ∀ i ∈ sl, ∀ c fr, Δ[i]? ≠ some (.own c fr)) {a : Addr} (h : Ow Δ σ a) : Ow Δ' σ' a := by
  obtain ⟨i, c, fr, h1, h2⟩ := h
  by_cases z : i ∈ sl
  · exact absurd h1 (no i z c fr)
  · obtain ⟨e1, e2⟩ := t.keep i z
    exact ⟨i, c, fr, e1 ▸ h1, e2 ▸ h2⟩
theorem TgOk.fm {ρ' : List Dt} {sl : List Nat} (t : TgOk K f Δ Δ' ρ' σ σ' H sl) {av fr : Bool} {a : Addr} (h : FM f Δ σ av fr a) : FM f Δ' σ' av fr a := ⟨fun e => ⟨fun z => (h.1 e).1 (t.ow z), (h.1 e).2⟩, h.2⟩
theorem TgOk.fm' {ρ' : List Dt} {sl : List Nat} (t : TgOk K f Δ Δ' ρ' σ σ' H sl) (no : ∀ i ∈ sl, ∀ c fr, Δ[i]? ≠ some (.own c fr)) {av fr : Bool} {a : Addr} (h : FM f Δ' σ' av fr a) : FM f Δ σ av fr a := ⟨fun e => ⟨fun z => (h.1 e).1 (t.ow' no z), (h.1 e).2⟩, h.2⟩
theorem TgOk.refl (r : R K f Δ ρ σ H) : TgOk K f Δ Δ ρ σ σ H [] := ⟨r, fun _ _ => ⟨rfl, rfl⟩, fun _ h => absurd h (by simp), rfl⟩
theorem TgOk.trans {Δ1 Δ2 : List Kd} {ρ1 ρ2 : List Dt} {σ1 σ2 : L2.St} {s1 s2 : List Nat} (t : TgOk K f Δ Δ1 ρ1 σ σ1 H s1) (u : TgOk K f Δ1 Δ2 ρ2 σ1 σ2 H s2) : TgOk K f Δ Δ2 ρ2 σ σ2 H (s1 ++ s2) := by
  refine ⟨u.r, fun i h => ?_, fun i h => ?_, u.len.trans t.len⟩
  · rw [List.mem_append, not_or] at h
    obtain ⟨a1, a2⟩ := t.keep i h.1
    obtain ⟨b1, b2⟩ := u.keep i h.2
    exact ⟨b1.trans a1, b2.trans a2⟩
  · by_cases z : i ∈ s2
    · exact u.im i z
    · rcases List.mem_append.mp h with h | h
      · obtain ⟨fr, e⟩ := t.im i h
        exact ⟨fr, (u.keep i z).1.trans e⟩
      · exact absurd h z
end

def GJ (K : PySem.W.Frag) (n : Nat) (g : TG) (sl : List Nat) (h : Dt → List Dt → O (List Dt)) (TK : Bool → List Kd → List Kd) : Prop := ∀ f Δ ρ σ H v d fr Q, Δ.length = n → R K f Δ ρ σ H → Rp K (FM f Δ σ true fr) H v d →
  (match h d ρ with | .ok ρ' => ∀ σ', TgOk K f Δ (TK fr Δ) ρ' σ σ' H sl → Q σ' H | _ => False) → g v σ H Q
def GJs (K : PySem.W.Frag) (n : Nat) (g : TGs) (sl : List Nat) (h : List Dt → List Dt → O (List Dt)) (TK : Bool → List Kd → List Kd) : Prop := ∀ f Δ ρ σ H vs ds fr Q, Δ.length = n → R K f Δ ρ σ H → RpA K (FM f Δ σ true fr) H vs ds →
  (match h ds ρ with | .ok ρ' => ∀ σ', TgOk K f Δ (TK fr Δ) ρ' σ σ' H sl → Q σ' H | _ => False) → g vs σ H Q
structure GD (X : Cx) (K : PySem.W.Frag) (n : Nat) (tg : Expr) (g : TG) (sl : List Nat) (h : Dt → List Dt → O (List Dt)) (TK : Bool → List Kd → List Kd) : Prop where
  pg : PG X tg g
  hK : X.K = K
  gj : GJ K n g sl h TK
structure GDs (X : Cx) (K : PySem.W.Frag) (n : Nat) (tg : List Expr) (g : TGs) (sl : List Nat) (h : List Dt → List Dt → O (List Dt)) (TK : Bool → List Kd → List Kd) : Prop where
  pg : PGs X tg g
  hK : X.K = K
  gj : GJs K n g sl h TK
def tgN (i : Nat) : Dt → List Dt → O (List Dt) := fun d ρ => .ok (ρ.set i d)
def tgT (h : List Dt → List Dt → O (List Dt)) : Dt → List Dt → O (List Dt) := fun d ρ => match d with
  | .tuple ds => h ds ρ
  | _ => .bad
def tgL (h : List Dt → List Dt → O (List Dt)) : Dt → List Dt → O (List Dt) := fun d ρ => match d with
  | .list ds => h ds ρ
  | _ => .bad
def tgNil : List Dt → List Dt → O (List Dt) := fun ds ρ => match ds with
  | [] => .ok ρ
  | _ => .bad
def tgCons (h : Dt → List Dt → O (List Dt)) (u : List Dt → List Dt → O (List Dt)) : List Dt → List Dt → O (List Dt) := fun ds ρ => match ds with
  | d :: r => (match h d ρ with
    | .ok ρ' => u r ρ'
    | _ => .bad)
  | [] => .bad
def TKN (i : Nat) : Bool → List Kd → List Kd := fun fr Δ => Δ.set i (.im fr)
def TK0 : Bool → List Kd → List Kd := fun _ Δ => Δ
def TKC (a b : Bool → List Kd → List Kd) : Bool → List Kd → List Kd := fun fr Δ => b fr (a fr Δ)

section
variable {K : PySem.W.Frag} {n : Nat}
theorem gj_name {i : Nat} (hi : i < n) : GJ K n (gName i) [i] (tgN i) (TKN i) := fun f Δ ρ σ H v d fr Q hl R x q => by
  have hi' : i < Δ.length := by rw [hl]; exact hi
  refine q (σ.set i (some v)) ⟨R.setIm hi' x, fun j h => ?_, fun j h => ?_, by unfold TKN; rw [List.length_set]⟩
  · have : i ≠ j := fun e => h (by rw [e]; exact List.mem_singleton.mpr rfl)
    unfold TKN
    exact ⟨List.getElem?_set_ne this, List.getElem?_set_ne this⟩
  · have : j = i := List.mem_singleton.mp h
    subst this
    unfold TKN
    exact ⟨fr, List.getElem?_set_self hi'⟩
theorem gj_nil : GJs K n L2.gNil [] tgNil TK0 := fun f Δ ρ σ H vs ds fr Q hl R x q => by
  cases x with
  | nil => exact ⟨rfl, q σ (.refl R)⟩
  | cons => exact q.elim
theorem gj_cons {g : TG} {gs : TGs} {s1 s2 : List Nat} {h : Dt → List Dt → O (List Dt)} {u : List Dt → List Dt → O (List Dt)} {T1 T2 : Bool → List Kd → List Kd} (a : GJ K n g s1 h T1) (b : GJs K n gs s2 u T2) :
    GJs K n (L2.gCons g gs) (s1 ++ s2) (tgCons h u) (TKC T1 T2) := fun f Δ ρ σ H vs ds fr Q hl R x q => by
  cases x with
  | nil => exact q.elim
  | cons x r =>
    refine ⟨_, _, rfl, ?_⟩
    unfold tgCons at q
    refine a f Δ ρ σ H _ _ fr _ hl R x ?_
    simp only at q
    revert q
    cases e : h _ ρ with
    | bad => exact fun q => q.elim
    | ex z => exact fun q => q.elim
    | ok ρ1 =>
      intro q σ1 t1
      refine b f _ ρ1 σ1 H _ _ fr _ (t1.len.trans hl) t1.r (r.weak fun _ y => t1.fm y) ?_
      simp only at q
      revert q
      cases e2 : u _ ρ1 with
      | bad => exact fun q => q.elim
      | ex z => exact fun q => q.elim
      | ok ρ2 => exact fun q σ2 t2 => q σ2 (t1.trans t2)
theorem gj_tup {m : Nat} {gs : TGs} {sl : List Nat} {u : List Dt → List Dt → O (List Dt)} {T : Bool → List Kd → List Kd} (b : GJs K n gs sl u T) (hm : ∀ ds ρ, ds.length ≠ m → ∀ z, u ds ρ ≠ .ok z) :
    GJ K n (L2.gTup K m gs) sl (tgT u) T := fun f Δ ρ σ H v d fr Q hl R x q => by
  cases d with
  | tuple ds =>
    obtain ⟨a, xs, rfl, hs, r⟩ := x.sqt
    have q : (match u ds ρ with | .ok ρ' => ∀ σ', TgOk K f Δ (T fr Δ) ρ' σ σ' H sl → Q σ' H | _ => False) := q
    refine ⟨a, xs, rfl, hs, ?_, b f Δ ρ σ H xs ds fr Q hl R r q⟩
    by_cases e : ds.length = m
    · rw [r.length]; exact e
    · cases eu : u ds ρ with
      | ok z => exact absurd eu (hm ds ρ e z)
      | bad => rw [eu] at q; exact q.elim
      | ex z => rw [eu] at q; exact q.elim
  | _ => exact q.elim
theorem tgNil_len : ∀ ds ρ, ds.length ≠ 0 → ∀ z, tgNil ds ρ ≠ .ok z
  | [], _, h, _ => absurd rfl h
  | _ :: _, _, _, _ => fun e => by cases e
theorem tgCons_len {m : Nat} {h : Dt → List Dt → O (List Dt)} {u : List Dt → List Dt → O (List Dt)} (hu : ∀ ds ρ, ds.length ≠ m → ∀ z, u ds ρ ≠ .ok z) : ∀ ds ρ, ds.length ≠ m + 1 → ∀ z, tgCons h u ds ρ ≠ .ok z
  | [], _, _, _ => fun e => by cases e
  | d :: r, ρ, hl, z => fun e => by
    unfold tgCons at e
    simp only at e
    cases eh : h d ρ with
    | bad => rw [eh] at e; cases e
    | ex y => rw [eh] at e; cases e
    | ok ρ' =>
      rw [eh] at e
      exact hu r ρ' (fun q => hl (by rw [List.length_cons, q])) z e
end
section
variable {X : Cx} {K : PySem.W.Frag} {n : Nat} {pos : Pos}
theorem g_name (i : Nat) {x : Str} (hN : X.N.Nodup) (hn : i < n := by decide) (hi : X.N[i]? = some x := by rfl) (hx : Loc X.env.scope x := by first | exact .inl rfl | exact .inr rfl) (hf : X.fn x = true ∨ X.env.scope.names.lookup x = some .local := by first | exact .inl rfl | exact .inr rfl) (hK : X.K = K := by rfl) :
    GD X K n (.Name x pos) (gName i) [i] (tgN i) (TKN i) := ⟨pg_name hN hi hx hf, hK, gj_name hn⟩
theorem g_nil (hK : X.K = K := by rfl) : GDs X K n [] L2.gNil [] tgNil TK0 := ⟨pgs_nil, hK, gj_nil⟩
theorem g_cons {e : Expr} {es : List Expr} {g : TG} {gs : TGs} {s1 s2 : List Nat} {h : Dt → List Dt → O (List Dt)} {u : List Dt → List Dt → O (List Dt)} {T1 T2 : Bool → List Kd → List Kd} (a : GD X K n e g s1 h T1) (b : GDs X K n es gs s2 u T2)
    (hs : (assignEach (e :: es) X.env).map (·.2) = assign e X.env :: (assignEach es X.env).map (·.2) := by rfl) : GDs X K n (e :: es) (L2.gCons g gs) (s1 ++ s2) (tgCons h u) (TKC T1 T2) := ⟨pgs_cons a.pg b.pg hs, a.hK, gj_cons a.gj b.gj⟩
end

/-! ### comprehensions -/
abbrev W0 : Wt := fun _ _ _ => False
def wipeK (Δ : List Kd) : List Nat → List Kd
  | [] => Δ
  | v :: vs => (wipeK Δ vs).set v .no
def noOwn (Δ : List Kd) (vs : List Nat) : Bool := vs.all fun i => match Δ[i]? with
  | some (.own _ _) => false
  | _ => true
theorem wipeK_len (Δ : List Kd) : ∀ vs, (wipeK Δ vs).length = Δ.length
  | [] => rfl
  | v :: vs => by unfold wipeK; rw [List.length_set, wipeK_len Δ vs]
theorem wipeK_out {Δ : List Kd} {i : Nat} : ∀ {vs : List Nat}, i ∉ vs → (wipeK Δ vs)[i]? = Δ[i]?
  | [], _ => rfl
  | v :: vs, h => by
    unfold wipeK
    rw [List.getElem?_set_ne (fun e => h (by rw [e]; exact List.mem_cons_self)), wipeK_out fun z => h (List.mem_cons_of_mem _ z)]
theorem wipeK_in {Δ : List Kd} {i : Nat} : ∀ {vs : List Nat}, i ∈ vs → ∀ k, (wipeK Δ vs)[i]? = some k → k = .no
  | [], h, _, _ => absurd h (by simp)
  | v :: vs, h, k, e => by
    unfold wipeK at e
    by_cases z : v = i
    · subst z
      by_cases hv : v < (wipeK Δ vs).length
      · rw [List.getElem?_set_self hv] at e
        exact (Option.some.inj e).symm
      · rw [List.getElem?_eq_none (by rw [List.length_set]; omega)] at e
        cases e
    · rw [List.getElem?_set_ne z] at e
      rcases List.mem_cons.mp h with q | q
      · exact absurd q.symm z
      · exact wipeK_in q k e
theorem wipe_out {σ : L2.St} {i : Nat} : ∀ {vs : List Nat}, i ∉ vs → (wipe σ vs)[i]? = σ[i]?
  | [], _ => rfl
  | v :: vs, h => by
    unfold wipe
    rw [List.getElem?_set_ne (fun e => h (by rw [e]; exact List.mem_cons_self)), wipe_out fun z => h (List.mem_cons_of_mem _ z)]
theorem wipe_in {σ : L2.St} {i : Nat} : ∀ {vs : List Nat}, i ∈ vs → i < σ.length → (wipe σ vs)[i]? = some none
  | [], h, _ => absurd h (by simp)
  | v :: vs, h, hl => by
    unfold wipe
    by_cases z : v = i
    · subst z
      rw [List.getElem?_set_self (by rw [wipe_length]; exact hl)]
    · rw [List.getElem?_set_ne z]
      rcases List.mem_cons.mp h with q | q
      · exact absurd q.symm z
      · exact wipe_in q hl
theorem wipe_eq {σ σ' : L2.St} {vs : List Nat} (hl : σ'.length = σ.length) (h : ∀ i, i ∉ vs → σ'[i]? = σ[i]?) : wipe σ' vs = wipe σ vs := by
  apply List.ext_getElem?
  intro i
  by_cases z : i ∈ vs
  · by_cases q : i < σ.length
    · rw [wipe_in z (by rw [hl]; exact q), wipe_in z q]
    · rw [List.getElem?_eq_none (by rw [wipe_length, hl]; omega), List.getElem?_eq_none (by rw [wipe_length]; omega)]
  · rw [wipe_out z, wipe_out z]
    exact h i z
theorem noOwn_get {Δ : List Kd} {vs : List Nat} (h : noOwn Δ vs = true) {i : Nat} (hi : i ∈ vs) {c : Ct} {fr : Bool} : Δ[i]? ≠ some (.own c fr) := fun e => by
  have q := List.all_eq_true.mp h i hi
  rw [e] at q
  cases q
section
variable {K : PySem.W.Frag} {f : Fm} {Δ : List Kd} {ρ : List Dt} {σ : L2.St} {H : Hp}
theorem ow_wipe {vs : List Nat} (h : noOwn Δ vs = true) {a : Addr} : Ow (wipeK Δ vs) (wipe σ vs) a ↔ Ow Δ σ a := by
  constructor
  · rintro ⟨i, c, fr, h1, h2⟩
    have z : i ∉ vs := fun z => by cases wipeK_in z _ h1
    exact ⟨i, c, fr, by rw [← wipeK_out z]; exact h1, by rw [← wipe_out z]; exact h2⟩
  · rintro ⟨i, c, fr, h1, h2⟩
    have z : i ∉ vs := fun z => noOwn_get h z h1
    exact ⟨i, c, fr, by rw [wipeK_out z]; exact h1, by rw [wipe_out z]; exact h2⟩
theorem fm_wipe {vs : List Nat} (h : noOwn Δ vs = true) {av fr : Bool} {a : Addr} : FM f (wipeK Δ vs) (wipe σ vs) av fr a ↔ FM f Δ σ av fr a := by
  unfold FM
  rw [ow_wipe h]
theorem R.wipe {vs : List Nat} (h : noOwn Δ vs = true) (r : R K f Δ ρ σ H) : R K f (wipeK Δ vs) ρ (L2.wipe σ vs) H := by
  refine ⟨r.ext, r.g0, by rw [wipe_length, wipeK_len]; exact r.lσ, by rw [wipeK_len]; exact r.lρ, ?_, fun a ha => ⟨(r.pin a ha).1, fun z => (r.pin a ha).2 ((ow_wipe h).mp z)⟩, fun g hg => (r.gh g hg).weak fun a y => (fm_wipe h).mpr y, fun i fr h' => ?_, fun i c fr h' => ?_, fun i c fr h' ha => ?_⟩
  · intro i j ci fi cj fj p h1 h2 h3 h4
    have z1 : i ∉ vs := fun z => by cases wipeK_in z _ h1
    have z2 : j ∉ vs := fun z => by cases wipeK_in z _ h2
    rw [wipeK_out z1] at h1
    rw [wipeK_out z2] at h2
    rw [wipe_out z1] at h3
    rw [wipe_out z2] at h4
    exact r.inj i j _ _ _ _ p h1 h2 h3 h4
  · have z1 : i ∉ vs := fun z => by cases wipeK_in z _ h'
    rw [wipeK_out z1] at h'
    obtain ⟨v, d, h1, h2, h3⟩ := r.im i fr h'
    exact ⟨v, d, by rw [wipe_out z1]; exact h1, h2, h3.weak fun a y => (fm_wipe h).mpr y⟩
  · have z1 : i ∉ vs := fun z => by cases wipeK_in z _ h'
    rw [wipeK_out z1] at h'
    obtain ⟨v, d, h1, h2, h3, h4⟩ := r.ow i c fr h'
    exact ⟨v, d, by rw [wipe_out z1]; exact h1, h2, h3, h4.map (fun o e => e) fun _ _ x => x.weak fun a y => (fm_wipe h).mpr y⟩
  · have z1 : i ∉ vs := fun z => by cases wipeK_in z _ h'
    rw [wipeK_out z1] at h'
    obtain ⟨p, h1, h2⟩ := r.ar i c fr h' ha
    exact ⟨p, h1, by rw [wipe_out z1]; exact h2⟩
/-- a new list at p and what is walked, kept in mind -/
def Fm.with (f : Fm) (P : List Addr) (g : List (List V × List Dt × Bool)) : Fm := { f with P := P ++ f.P, Γ := g ++ f.Γ }
theorem R.addG {vs : List V} {es : List Dt} {fr : Bool} (r : R K f Δ ρ σ H) (x : RpA K (FM f Δ σ true fr) H vs es) : R K { f with Γ := (vs, es, fr) :: f.Γ } Δ ρ σ H := by
  refine ⟨r.ext, r.g0, r.lσ, r.lρ, r.inj, r.pin, fun g hg => ?_, r.im, r.ow, r.ar⟩
  rcases List.mem_cons.mp hg with e | h
  · subst e; exact x
  · exact r.gh g h
theorem R.dropG {g : List V × List Dt × Bool} {Γ : List (List V × List Dt × Bool)} (r : R K { f with Γ := g :: Γ } Δ ρ σ H) : R K { f with Γ := Γ } Δ ρ σ H :=
  ⟨r.ext, r.g0, r.lσ, r.lρ, r.inj, r.pin, fun g hg => r.gh g (List.mem_cons_of_mem _ hg), r.im, r.ow, r.ar⟩
theorem R.addP {p : Addr} {o : HO} (r : R K f Δ ρ σ H) (np : H p = none) (m : Mutb o) : R K { f with P := p :: f.P } Δ ρ σ (upd H p o) := by
  obtain ⟨f1, f2, f3⟩ := r.fresh np
  have key : ∀ {fr : Bool} {v : V} {d : Dt}, Rp K (FM f Δ σ true fr) H v d → Rp K (FM { f with P := p :: f.P } Δ σ true fr) (upd H p o) v d := fun h =>
    h.mono (same_upd np) fun a fa na => ⟨fun _ => ⟨(fa.1 rfl).1, fun z => by
      rcases List.mem_cons.mp z with e | h
      · exact na (e ▸ np)
      · exact (fa.1 rfl).2 h⟩, fa.2⟩
  refine ⟨r.ext.trans (same_upd np), r.g0, r.lσ, r.lρ, r.inj, fun a ha => ?_, fun g hg => (r.gh g hg).map fun _ _ x => key x, fun i fr h => ?_, fun i c fr h => ?_, r.ar⟩
  · rcases List.mem_cons.mp ha with e | h
    · subst e
      exact ⟨⟨o, upd_same, m⟩, f1⟩
    · obtain ⟨⟨u, hu, mu⟩, no⟩ := r.pin a h
      exact ⟨⟨u, same_upd np _ _ hu, mu⟩, no⟩
  · obtain ⟨v, d, h1, h2, h3⟩ := r.im i fr h
    exact ⟨v, d, h1, h2, key h3⟩
  · obtain ⟨v, d, h1, h2, h3, h4⟩ := r.ow i c fr h
    exact ⟨v, d, h1, h2, h3, h4.map (fun o e => same_upd np _ _ e) fun _ _ x => key x⟩
end

def lcE (h : Dt → List Dt → O (List Dt)) (gt : List Dt → O Bool) (ge : Gd) (ρ : List Dt) : List Dt → O (List Dt)
  | [] => .ok []
  | d :: ds => bnd (h d ρ) fun ρ' => bnd (gt ρ') fun b => if b then bnd (ge ρ') fun e => bnd (lcE h gt ge ρ ds) fun es => .ok (e :: es) else lcE h gt ge ρ ds
def gLc (gi : List Dt → O (List Dt)) (h : Dt → List Dt → O (List Dt)) (gt : List Dt → O Bool) (ge : Gd) : Gd := fun ρ => bnd (gi ρ) fun ds => if ds.length ≤ 100000 then (match lcE h gt ge ρ ds with
  | .ok es => .ok (.list es)
  | _ => .bad) else .bad
def gYes : List Dt → O Bool := fun _ => .ok true
theorem bnd_inv {α β : Type} {x : O α} {k : α → O β} {z : β} (h : bnd x k = .ok z) : ∃ a, x = .ok a ∧ k a = .ok z := by
  cases x with
  | bad => cases h
  | ex e => cases h
  | ok a => exact ⟨a, rfl, h⟩

theorem se_lc {K : PySem.W.Frag} {W : Wt} {Δ : List Kd} {wi : TI} {g : TG} {tt : TT} {te : TE} {vs sl : List Nat} {b fr fr' : Bool} {gi : List Dt → O (List Dt)} {h : Dt → List Dt → O (List Dt)} {TK : Bool → List Kd → List Kd} {gt : List Dt → O Bool} {ge : Gd} {n : Nat}
    (hi : SI K W Δ wi b fr gi) (hg : GJ K n g sl h TK) (hn : Δ.length = n) (hsl : ∀ i ∈ sl, i ∈ vs) (no : noOwn Δ vs = true) (ht : ST K W0 (TK fr (wipeK Δ vs)) tt gt) (he : SE K W0 (TK fr (wipeK Δ vs)) te (.v true fr') ge) :
    SE K W Δ (tLc wi g tt te vs) (.new .l fr') (gLc gi h gt ge) := fun f ρ σ H Q r q => by
  refine hi f ρ σ H _ r ?_
  unfold gLc at q
  cases e1 : gi ρ with
  | bad => rw [e1] at q; exact q
  | ex z => rw [e1] at q; exact q
  | ok ds =>
    rw [e1, bnd_ok] at q
    by_cases hl : ds.length ≤ 100000
    · rw [if_pos hl] at q
      cases ea : lcE h gt ge ρ ds with
      | bad => rw [ea] at q; exact q.elim
      | ex z => rw [ea] at q; exact q.elim
      | ok all =>
        rw [ea] at q
        intro J H1 pf gv ge0 s1 hb hpf x1 sc D nD
        -- the frame within
        have r1 := (((r.mono s1).addP (o := .lst []) nD trivial).addG (fr := fr) (x1.mono (same_upd nD) fun a fa na => ⟨fun _ => ⟨(fa.1 rfl).1, fun z => by
          rcases List.mem_cons.mp z with e | h
          · exact na (e ▸ nD)
          · exact (fa.1 rfl).2 h⟩, fa.2⟩))
        generalize hf1 : ({ f with P := D :: f.P, Γ := (gv, ge0, fr) :: f.Γ } : Fm) = f1 at r1
        have r1 : R K f1 Δ ρ σ (upd H1 D (.lst [])) := by rw [← hf1]; rw [← hf1] at r1; exact r1
        have dP : D ∈ f1.P := by rw [← hf1]; exact List.mem_cons_self
        have gG : (gv, ge0, fr) ∈ f1.Γ := by rw [← hf1]; exact List.mem_cons_self
        have h0 : f1.H0 D = none := by rw [← hf1]; exact ((r.mono s1).fresh nD).2.2
        have fmf : ∀ {fr : Bool} {a : Addr}, FM f1 Δ σ true fr a → FM f Δ σ true fr a ∧ a ≠ D := fun {fr a} y => by
          rw [← hf1] at y
          exact ⟨⟨fun e => ⟨(y.1 e).1, fun z => (y.1 e).2 (List.mem_cons_of_mem _ z)⟩, y.2⟩, fun z => (y.1 rfl).2 (z ▸ List.mem_cons_self)⟩
        have noSl : ∀ i ∈ sl, ∀ c fr, (wipeK Δ vs)[i]? ≠ some (.own c fr) := fun i hi c fr e => by cases wipeK_in (hsl i hi) _ e
        refine ⟨fun i m H' => m = ds.length - i ∧ i ≤ ds.length ∧ ∃ acc es rest, H' D = some (.lst acc) ∧ R K f1 Δ ρ σ H' ∧ RpA K (FM f1 Δ σ true fr') H' acc es ∧ acc.length ≤ i ∧ lcE h gt ge ρ (ds.drop i) = .ok rest ∧ all = es ++ rest ∧ Same H H' ∧ (∀ q, pf = some q → H' q.1 = some q.2),
          ⟨ds.length, by simp, Nat.zero_le _, [], [], all, upd_same, r1, .nil, Nat.le_refl _, ea, rfl, s1.trans (same_upd nD), fun q eq => same_upd nD _ _ (hpf q eq)⟩, ?_⟩
        rintro i m H2 ⟨rfl, hi2, acc, es, rest, hD, r2, x2, la, er, eall, sHH, hpf2⟩
        have stand : (∀ q, pf = some q → H2 q.1 = some q.2) ∧ ∃ F, RpA K F H2 gv ge0 := ⟨hpf2, _, r2.gh _ gG⟩
        by_cases hlt : i < ds.length
        · refine .inr ⟨sc.goes i H2 hlt stand, fun H' => i + 1 ≤ ds.length ∧ ∃ acc es rest, H' D = some (.lst acc) ∧ R K f1 Δ ρ σ H' ∧ RpA K (FM f1 Δ σ true fr') H' acc es ∧ acc.length ≤ i + 1 ∧ lcE h gt ge ρ (ds.drop (i + 1)) = .ok rest ∧ all = es ++ rest ∧ Same H H' ∧ (∀ q, pf = some q → H' q.1 = some q.2),
            fun H' w => ⟨ds.length - (i + 1), by omega, rfl, w⟩, fun x H3 hy => ?_⟩
          obtain ⟨s3, hx⟩ := sc.yields i H2 x H3 hlt stand hy
          obtain ⟨d, hd, x3⟩ := hx _ (r2.gh _ gG)
          have edrop : ds.drop i = d :: ds.drop (i + 1) := by
            have hd' := (List.getElem?_eq_some_iff.mp hd).2
            rw [List.drop_eq_getElem_cons hlt, hd']
          rw [edrop] at er
          unfold lcE at er
          obtain ⟨ρ', eh, er⟩ := bnd_inv er
          obtain ⟨c, ec, er⟩ := bnd_inv er
          have r3 := r2.mono s3
          refine hg f1 (wipeK Δ vs) ρ (wipe σ vs) H3 x d fr _ (by rw [wipeK_len]; exact hn) (r3.wipe no) (x3.weak fun a y => (fm_wipe no).mpr y) ?_
          rw [eh]
          intro σ4 t4
          refine ⟨?_, ?_⟩
          · rw [wipe_eq (σ' := σ4) (σ := wipe σ vs) (by rw [t4.r.lσ, t4.len, wipeK_len, wipe_length, r.lσ]) fun i hi => (t4.keep i fun z => hi (hsl i z)).2]
            exact wipe_eq (wipe_length σ vs) fun i hi => wipe_out hi
          · refine ht f1 ρ' σ4 H3 _ t4.r ?_
            rw [ec]
            intro H4 s4
            cases c with
            | false =>
              show (if false = true then _ else _)
              rw [if_neg Bool.false_ne_true]
              have er : lcE h gt ge ρ (ds.drop (i + 1)) = .ok rest := er
              have s24 := s3.trans s4
              exact ⟨hlt, acc, es, rest, s24 _ _ hD, r2.mono s24, x2.same s24, by omega, er, eall, sHH.trans s24, fun q eq => s24 _ _ (hpf2 q eq)⟩
            | true =>
              show (if true = true then _ else _)
              rw [if_pos rfl]
              have er : bnd (ge ρ') (fun e => bnd (lcE h gt ge ρ (ds.drop (i + 1))) fun es => .ok (e :: es)) = .ok rest := er
              obtain ⟨e, ee, er⟩ := bnd_inv er
              obtain ⟨es', ees, er⟩ := bnd_inv er
              cases er
              refine he f1 ρ' σ4 H4 _ (t4.r.mono s4) ?_
              rw [ee]
              intro y H5 s5 x5
              have s25 := (s3.trans s4).trans s5
              have hD5 := s25 _ _ hD
              refine ⟨acc, hD5, Nat.lt_of_lt_of_le (show acc.length < 100001 by omega) (by decide), hlt, acc ++ [y], es ++ [e], es', upd_same, (r2.mono s25).updAt hD5 trivial trivial h0 (fun z => ((r2.pin D dP).2 z)) dP, ?_, by rw [List.length_append, List.length_singleton]; omega, ees, by rw [eall]; simp, ?_, fun q eq => ?_⟩
              · refine ((x2.same s25).updM hD5 trivial fun a y z => (y.1 rfl).2 (z ▸ dP)).append (.cons ?_ .nil)
                refine Rp.updM hD5 trivial (fun a y z => (y.1 rfl).2 (z ▸ dP)) (x5.weak fun a y => (fm_wipe no).mp (t4.fm' noSl y))
              · intro a o ha
                have na : a ≠ D := fun z => by
                  have z1 := s1 _ _ ha
                  rw [z, nD] at z1
                  cases z1
                rw [upd_ne na]
                exact s25 _ _ (sHH _ _ ha)
              · have nq : q.1 ≠ D := fun z => by
                  have z1 := hpf q eq
                  rw [z, nD] at z1
                  cases z1
                rw [upd_ne nq]
                exact s25 _ _ (hpf2 q eq)
        · have ei : i = ds.length := by omega
          subst ei
          refine .inl ⟨sc.stops H2 stand, ?_⟩
          rw [List.drop_length] at er
          cases er
          rw [List.append_nil] at eall
          subst eall
          refine q D H2 (s1.free nD) sHH ⟨acc, _, rfl, hD, x2.weak fun a y => fmf y⟩
    · rw [if_neg hl] at q
      exact q.elim
end Sim
end T_SimE

section T_SimF
set_option Elab.async false
set_option linter.all false
set_option maxRecDepth 100000
/-! SimF: statements, calls, defs. -/
namespace Sim
open PySem PySem.Spec L2
open PyProof.Rows hiding St

inductive Fl where
  | nx (ρ : List Dt) | rt (d : Dt) | bk (ρ : List Dt) | ct (ρ : List Dt)
abbrev Gs := List Dt → O Fl

/-- how a def tells: a value, a new list; the same of a def that changes its argument -/
inductive Lk where
  | n | l | m | ml
def sclA : List Dt → Bool
  | [] => true
  | d :: ds => scl d && sclA ds
def sclV : List (Dt × Dt) → Bool
  | [] => true
  | d :: ds => scl d.2 && sclV ds
/-- what stands at an argument's place: scalars -/
def ArgAt (K : PySem.W.Frag) (H : Hp) (a : Addr) (d : Dt) : Prop := match d with
  | .list es => sclA es = true ∧ ∃ ws, H a = some (.lst ws) ∧ RpA K (fun _ => False) H ws es
  | .dict es => sclV es = true ∧ ∃ kvs, H a = some (.dK kvs) ∧ KvA K (fun _ => False) H kvs es
  | _ => False
def PoS (K : PySem.W.Frag) (W : Wt) (L : Lk) (f : Fm) (Δn Δb Δc : List Kd) (o : O Fl) (E : Ends) : Prop := match o with
  | .bad => False
  | .ex e => ∀ σ' H', Same f.H0 H' → W e σ' H'
  | .ok (.nx ρ) => ∀ σ' H', R K f Δn ρ σ' H' → E.nx σ' H'
  | .ok (.rt d) => (match L with
    | .l => ∀ p H', f.H0 p = none → Same f.H0 H' → OwC K .l (fun a => f.G a ∧ a ≠ p) H' p d → E.rt (.ref p) H'
    | .n => ∀ v H', Same f.H0 H' → Rp K f.G H' v d → E.rt v H'
    | .m => (match f.A, d with
      | some a, .tuple [r, e] => ∀ v H', Same f.H0 H' → ArgAt K H' a e → Rp K (fun b => f.G b ∧ b ≠ a) H' v r → E.rt v H'
      | _, _ => False)
    | .ml => (match f.A, d with
      | some a, .tuple [r, e] => ∀ p H', p ≠ a → f.H0 p = none → Same f.H0 H' → ArgAt K H' a e → OwC K .l (fun b => (f.G b ∧ b ≠ a) ∧ b ≠ p) H' p r → E.rt (.ref p) H'
      | _, _ => False))
  | .ok (.bk ρ) => ∀ σ' H', R K f Δb ρ σ' H' → E.bk σ' H'
  | .ok (.ct ρ) => ∀ σ' H', R K f Δc ρ σ' H' → E.ct σ' H'
def SS (K : PySem.W.Frag) (W : Wt) (L : Lk) (Δ Δn Δb Δc : List Kd) (ts : TS) (g : Gs) : Prop := ∀ f ρ σ H E, R K f Δ ρ σ H → PoS K W L f Δn Δb Δc (g ρ) E → ts E σ H

/-! ### closures -/
def gNext : Gs := fun ρ => .ok (.nx ρ)
def gSeqS (a b : Gs) : Gs := fun ρ => match a ρ with
  | .ok (.nx ρ') => b ρ'
  | o => o
def gRet (g : Gd) : Gs := fun ρ => bnd (g ρ) fun d => .ok (.rt d)
def gRetN : Gs := fun _ => .ok (.rt .none)
def gAsg (g : Gd) (h : Dt → List Dt → O (List Dt)) : Gs := fun ρ => bnd (g ρ) fun d => match h d ρ with
  | .ok ρ' => .ok (.nx ρ')
  | _ => .bad
def gSet (i : Nat) (g : Gd) : Gs := fun ρ => bnd (g ρ) fun d => .ok (.nx (ρ.set i d))
def gPar (i j : Nat) (g : List Dt → O (List Dt)) : Gs := fun ρ => bnd (g ρ) fun ds => match ds with
  | [a, b] => .ok (.nx ((ρ.set i a).set j b))
  | _ => .bad
def gAug (h : Int → Int → Int) (i : Nat) (g : Gd) : Gs := fun ρ => match ρ[i]? with
  | some (.int a) => bnd (g ρ) fun d => (match d with
    | .int b => .ok (.nx (ρ.set i (.int (h a b))))
    | _ => .bad)
  | _ => .bad
def gDrop (g : Gd) : Gs := fun ρ => bnd (g ρ) fun _ => .ok (.nx ρ)
def gApp (i : Nat) (g : Gd) : Gs := fun ρ => match ρ[i]? with
  | some (.list ds) => bnd (g ρ) fun d => if ds.length < 100000 then .ok (.nx (ρ.set i (.list (ds ++ [d])))) else .bad
  | _ => .bad
def gExt (i : Nat) (g : Gd) : Gs := fun ρ => match ρ[i]? with
  | some (.list ds) => bnd (g ρ) fun d => (match d with
    | .list es => if ds.length + es.length ≤ 100000 then .ok (.nx (ρ.set i (.list (ds ++ es)))) else .bad
    | _ => .bad)
  | _ => .bad
def gSetI (i : Nat) (ge gi : Gd) : Gs := fun ρ => bnd (ge ρ) fun d => match ρ[i]? with
  | some (.list ds) => bnd (gi ρ) fun k => (match k with
    | .int k => (match ixN ds.length k with
      | some j => .ok (.nx (ρ.set i (.list (ds.set j d))))
      | none => .bad)
    | _ => .bad)
  | _ => .bad
def gIfS (t : List Dt → O Bool) (a b : Gs) : Gs := fun ρ => bnd (t ρ) fun c => if c then a ρ else b ρ
def gWhile (t : List Dt → O Bool) (b : Gs) : Nat → Gs
  | 0 => fun _ => .bad
  | n + 1 => fun ρ => bnd (t ρ) fun c => if c then (bnd (b ρ) fun fl => match fl with
    | .nx ρ' => gWhile t b n ρ'
    | .ct ρ' => gWhile t b n ρ'
    | .bk ρ' => .ok (.nx ρ')
    | .rt d => .ok (.rt d)) else .ok (.nx ρ)
def forE (h : Dt → List Dt → O (List Dt)) (b : Gs) : List Dt → Gs
  | [] => fun ρ => .ok (.nx ρ)
  | d :: ds => fun ρ => match h d ρ with
    | .ok ρ1 => bnd (b ρ1) fun fl => (match fl with
      | .nx ρ' => forE h b ds ρ'
      | .ct ρ' => forE h b ds ρ'
      | .bk ρ' => .ok (.nx ρ')
      | .rt d => .ok (.rt d))
    | _ => .bad
def gFor (gi : List Dt → O (List Dt)) (h : Dt → List Dt → O (List Dt)) (b : Gs) : Gs := fun ρ => bnd (gi ρ) fun ds => forE h b ds ρ

section
variable {K : PySem.W.Frag} {W : Wt} {Δ Δ1 Δ2 Δn Δb Δc : List Kd} {te ti : TE} {tt : TT} {t u : TS} {ta : TA} {g ge gi : Gd} {gt : List Dt → O Bool} {gA : List Dt → O (List Dt)} {ga gb : Gs} {fr fr' av av' : Bool} {L : Lk} {i j : Nat}

theorem SS.pre (h : SS K W L Δ1 Δn Δb Δc t ga) (l : leA Δ Δ1 = true) : SS K W L Δ Δn Δb Δc t ga := fun f ρ σ H E r q => h f ρ σ H E (r.weak l) q
theorem SS.post {Δn' Δb' Δc' : List Kd} (h : SS K W L Δ Δn Δb Δc t ga) (ln : leA Δn Δn' = true) (lb : leA Δb Δb' = true) (lc : leA Δc Δc' = true) : SS K W L Δ Δn' Δb' Δc' t ga := fun f ρ σ H E r q => h f ρ σ H E r <| by
  cases e : ga ρ with
  | bad => rw [e] at q; exact q
  | ex z => rw [e] at q; exact q
  | ok fl =>
    rw [e] at q
    cases fl with
    | nx ρ' => exact fun σ' H' r => q σ' H' (r.weak ln)
    | rt d => exact q
    | bk ρ' => exact fun σ' H' r => q σ' H' (r.weak lb)
    | ct ρ' => exact fun σ' H' r => q σ' H' (r.weak lc)
theorem s_next : SS K W L Δ Δ Δb Δc tNext gNext := fun f ρ σ H E r q => q σ H r
theorem s_seq (h1 : SS K W L Δ Δ1 Δb Δc t ga) (h2 : SS K W L Δ1 Δn Δb Δc u gb) : SS K W L Δ Δn Δb Δc (tSeq t u) (gSeqS ga gb) := fun f ρ σ H E r q => h1 f ρ σ H _ r <| by
  unfold gSeqS at q
  cases e : ga ρ with
  | bad => rw [e] at q; exact q
  | ex z => rw [e] at q; exact q
  | ok fl =>
    rw [e] at q
    cases fl with
    | nx ρ' => exact fun σ' H' r' => h2 f ρ' σ' H' E r' q
    | rt d => exact q
    | bk ρ' => exact q
    | ct ρ' => exact q
theorem s_ret (h : SE K W Δ te (.v av true) g) : SS K W .n Δ Δn Δb Δc (tRet te) (gRet g) := fun f ρ σ H E r q => h f ρ σ H _ r <| by
  unfold gRet at q
  cases e : g ρ with
  | bad => rw [e] at q; exact q
  | ex z => rw [e] at q; exact fun H' s => q σ H' (r.ext.trans s)
  | ok d =>
    rw [e] at q
    exact fun v H' s x => q v H' (r.ext.trans s) (x.weak fun a fa => fa.2 rfl)
theorem s_retL (h : SE K W Δ te (.new .l true) g) : SS K W .l Δ Δn Δb Δc (tRet te) (gRet g) := fun f ρ σ H E r q => h f ρ σ H _ r <| by
  unfold gRet at q
  cases e : g ρ with
  | bad => rw [e] at q; exact q
  | ex z => rw [e] at q; exact fun H' s => q σ H' (r.ext.trans s)
  | ok d =>
    rw [e] at q
    exact fun p H' np s x => q p H' (r.fresh np).2.2 (r.ext.trans s) (x.map (fun _ e => e) fun _ _ y => y.weak fun a fa => ⟨fa.1.2 rfl, fa.2⟩)
/-- return of an owned name -/
theorem s_retO (hk : Δ[i]? = some (.own .l true)) : SS K W .l Δ Δn Δb Δc (tRet (tVar i)) (gRet (gVar i)) := fun f ρ σ H E r q => by
  obtain ⟨p, d, h1, h2, h3, h4⟩ := r.ow i .l true hk
  unfold gRet gVar at q
  rw [h2, bnd_ok] at q
  exact ⟨_, h1, q p H h3 r.ext (h4.map (fun _ e => e) fun _ _ y => y.weak fun a fa => ⟨fa.2 rfl, fun z => (fa.1 rfl).1 (z ▸ ⟨i, .l, true, hk, h1⟩)⟩)⟩
def gPurV (i : Nat) : Gd := gPurN (gVar i)
theorem s_retOp (hk : Δ[i]? = some (.own .l fr)) : SS K W .l Δ Δn Δb Δc (tRet (tVar i)) (gRet (gPurV i)) := fun f ρ σ H E r q => by
  obtain ⟨p, d, h1, h2, h3, vs, ds, ed, h4, h5⟩ := r.ow i .l fr hk
  subst ed
  unfold gRet gPurV gPurN gVar at q
  rw [h2] at q
  have q : PoS K W .l f Δn Δb Δc (bnd (if pureIn (.list ds) = true then O.ok (PyData.list ds) else O.bad) fun d => O.ok (Fl.rt d)) E := q
  by_cases pp : pureIn (.list ds) = true
  · rw [if_pos pp] at q
    exact ⟨_, h1, q p H h3 r.ext ⟨vs, ds, rfl, h4, h5.pure pp⟩⟩
  · rw [if_neg pp] at q
    exact q.elim
theorem s_retN : SS K W .n Δ Δn Δb Δc tRetN gRetN := fun f ρ σ H E r q => q .non H r.ext .non
theorem s_drop {k : Rk} (h : SE K W Δ te k g) : SS K W L Δ Δ Δb Δc (tDrop te) (gDrop g) := fun f ρ σ H E r q => h f ρ σ H _ r <| by
  unfold gDrop at q
  cases e : g ρ with
  | bad => rw [e] at q; exact q
  | ex z => rw [e] at q; exact fun H' s => q σ H' (r.ext.trans s)
  | ok d =>
    rw [e] at q
    cases k with
    | v av fr => exact fun v H' s x => q σ H' (r.mono s)
    | o fr => exact fun p H' vs ds e s _ _ _ => q σ H' (r.mono s)
    | new c fr => exact fun p H' np s x => q σ H' (r.mono s)
theorem s_set (hi : i < Δ.length) (h : SE K W Δ te (.v true fr) g) : SS K W L Δ (Δ.set i (.im fr)) Δb Δc (tAsg te (gName i)) (gSet i g) := fun f ρ σ H E r q => h f ρ σ H _ r <| by
  unfold gSet at q
  cases e : g ρ with
  | bad => rw [e] at q; exact q
  | ex z => rw [e] at q; exact fun H' s => q σ H' (r.ext.trans s)
  | ok d =>
    rw [e] at q
    exact fun v H' s x => q _ H' ((r.mono s).setIm hi x)
theorem s_setO {c : Ct} (hi : i < Δ.length) (h : SE K W Δ te (.new c fr) g) (hc : isArg c = false := by rfl) : SS K W L Δ (Δ.set i (.own c fr)) Δb Δc (tAsg te (gName i)) (gSet i g) := fun f ρ σ H E r q => h f ρ σ H _ r <| by
  unfold gSet at q
  cases e : g ρ with
  | bad => rw [e] at q; exact q
  | ex z => rw [e] at q; exact fun H' s => q σ H' (r.ext.trans s)
  | ok d =>
    rw [e] at q
    exact fun p H' np s x => q _ H' (r.setOwn hi np s x hc)
theorem s_asg {gg : TG} {sl : List Nat} {n : Nat} {hh : Dt → List Dt → O (List Dt)} {TK : Bool → List Kd → List Kd} (hn : Δ.length = n) (h : SE K W Δ te (.v true fr) g) (hg : GJ K n gg sl hh TK) : SS K W L Δ (TK fr Δ) Δb Δc (tAsg te gg) (gAsg g hh) := fun f ρ σ H E r q => h f ρ σ H _ r <| by
  unfold gAsg at q
  cases e : g ρ with
  | bad => rw [e] at q; exact q
  | ex z => rw [e] at q; exact fun H' s => q σ H' (r.ext.trans s)
  | ok d =>
    rw [e, bnd_ok] at q
    intro v H' s x
    refine hg f Δ ρ σ H' v d fr _ hn (r.mono s) x ?_
    cases e2 : hh d ρ with
    | bad => rw [e2] at q; exact q.elim
    | ex z => rw [e2] at q; exact q.elim
    | ok ρ' =>
      rw [e2] at q
      exact fun σ' t => q σ' H' t.r
theorem s_par (hi : i < Δ.length) (hj : j < Δ.length) (h : SA K W Δ ta true fr gA) : SS K W L Δ ((Δ.set i (.im fr)).set j (.im fr)) Δb Δc (tPar i j ta) (gPar i j gA) := fun f ρ σ H E r q => h f ρ σ H _ r <| by
  unfold gPar at q
  cases e : gA ρ with
  | bad => rw [e] at q; exact q
  | ex z => rw [e] at q; exact fun H' s => q σ H' (r.ext.trans s)
  | ok ds =>
    rw [e, bnd_ok] at q
    intro vs H' s x
    match ds, x, q with
    | [], _, q => exact q.elim
    | [_], _, q => exact q.elim
    | [a, b], .cons x1 (.cons x2 .nil), q =>
      refine ⟨_, _, rfl, q _ H' ?_⟩
      have r1 := (r.mono s).setIm (fr := fr) hi x1
      refine r1.setIm (by rw [List.length_set]; exact hj) (x2.weak fun a fa => ⟨fun _ => ⟨fun z => (fa.1 rfl).1 ?_, (fa.1 rfl).2⟩, fa.2⟩)
      obtain ⟨k, c, frk, h1, h2⟩ := z
      by_cases z : i = k
      · subst z
        rw [List.getElem?_set_self hi] at h1
        cases h1
      · rw [List.getElem?_set_ne z] at h1 h2
        exact ⟨k, c, frk, h1, h2⟩
    | _ :: _ :: _ :: _, _, q => exact q.elim
theorem s_aug {hf : Int → Int → Int} (hk : Δ[i]? = some (.im fr)) (h : SE K W Δ te (.v av' fr') g) : SS K W L Δ (Δ.set i (.im true)) Δb Δc (tAug i te (ipI hf)) (gAug hf i g) := fun f ρ σ H E r q => by
  obtain ⟨v, d, h1, h2, h3⟩ := r.im i fr hk
  have hi : i < Δ.length := (List.getElem?_eq_some_iff.mp hk).1
  unfold gAug at q
  rw [h2] at q
  cases h3 with
  | int a =>
    refine ⟨_, h1, h f ρ σ H _ r ?_⟩
    simp only at q
    cases e : g ρ with
    | bad => rw [e] at q; exact q
    | ex z => rw [e] at q; exact fun H' s => q σ H' (r.ext.trans s)
    | ok d =>
      rw [e, bnd_ok] at q
      intro v H' s x
      cases d with
      | int b =>
        rw [rpInt x]
        exact ⟨a, b, rfl, rfl, q _ H' ((r.mono s).setIm hi (.int _))⟩
      | _ => exact q.elim
  | non => exact q.elim
  | bl => exact q.elim
  | str => exact q.elim
  | lst => exact q.elim
  | fz => exact q.elim
  | tup => exact q.elim
  | dic => exact q.elim
  | exn => exact q.elim
theorem s_app (hk : Δ[i]? = some (.own .l fr)) (h : SE K W Δ te (.v true fr') g) : SS K W L Δ (Δ.set i (.own .l (fr && fr'))) Δb Δc (tDrop (tBM K "list" rAppend (tVar i) (tCons te tNil))) (gApp i g) := fun f ρ σ H E r q => by
  obtain ⟨p, d, h1, h2, h3, vs, ds, ed, h4, h5⟩ := r.ow i .l fr hk
  subst ed
  unfold gApp at q
  rw [h2] at q
  simp only at q
  refine ⟨_, h1, .inl ⟨rfl, _, .inl (.inl h4)⟩, h f ρ σ H _ r ?_⟩
  cases e : g ρ with
  | bad => rw [e] at q; exact q
  | ex z => rw [e] at q; exact fun H' s => q σ H' (r.ext.trans s)
  | ok d =>
    rw [e, bnd_ok] at q
    intro v H1 s x
    by_cases hl : ds.length < 100000
    · rw [if_pos hl] at q
      have hp := s _ _ h4
      have hl2 : vs.length < sizeLine := by rw [h5.length]; exact Nat.lt_of_lt_of_le hl (by decide)
      refine ⟨p, vs, v, rfl, rfl, hp, hl2, q σ _ ?_⟩
      refine (r.mono s).updOwn hk h1 (c' := .l) (show Mutb (.lst _) from trivial) ⟨_, _, rfl, upd_same, ?_⟩
      have nf : ∀ {fr : Bool} (a : Addr), FM f Δ σ true fr a → a ≠ p := fun a fa z => (fa.1 rfl).1 (z ▸ ⟨i, .l, _, hk, h1⟩)
      exact (((h5.same s).updM hp trivial fun a fa => nf a fa).weak fun a y => y.weak id fun h => (Bool.and_eq_true_iff.mp h).1).append
        (.cons ((Rp.updM hp trivial (fun a fa => nf a fa) x).weak fun a y => y.weak id fun h => (Bool.and_eq_true_iff.mp h).2) .nil)
    · rw [if_neg hl] at q
      exact q.elim
theorem s_ext (hk : Δ[i]? = some (.own .l fr)) (h : SE K W Δ te (.new .l fr') g) : SS K W L Δ (Δ.set i (.own .l (fr && fr'))) Δb Δc (tDrop (tBM K "list" rExtend (tVar i) (tCons te tNil))) (gExt i g) := fun f ρ σ H E r q => by
  obtain ⟨p, d, h1, h2, h3, vs, ds, ed, h4, h5⟩ := r.ow i .l fr hk
  subst ed
  unfold gExt at q
  rw [h2] at q
  simp only at q
  refine ⟨_, h1, .inl ⟨rfl, _, .inl (.inl h4)⟩, h f ρ σ H _ r ?_⟩
  cases e : g ρ with
  | bad => rw [e] at q; exact q
  | ex z => rw [e] at q; exact fun H' s => q σ H' (r.ext.trans s)
  | ok d =>
    rw [e, bnd_ok] at q
    intro b H1 nb s x
    obtain ⟨ws, es, ed, hb, x⟩ := x
    subst ed
    simp only at q
    by_cases hl : ds.length + es.length ≤ 100000
    · rw [if_pos hl] at q
      have hp := s _ _ h4
      have hl2 : vs.length + ws.length ≤ sizeLine := by rw [h5.length, x.length]; exact sz_le hl
      refine ⟨p, b, vs, ws, rfl, rfl, hp, hb, hl2, q σ _ ?_⟩
      refine (r.mono s).updOwn hk h1 (c' := .l) (show Mutb (.lst _) from trivial) ⟨_, _, rfl, upd_same, ?_⟩
      have nf : ∀ {fr : Bool} (a : Addr), FM f Δ σ true fr a → a ≠ p := fun a fa z => (fa.1 rfl).1 (z ▸ ⟨i, .l, _, hk, h1⟩)
      exact (((h5.same s).updM hp trivial fun a fa => nf a fa).weak fun a y => y.weak id fun h => (Bool.and_eq_true_iff.mp h).1).append
        ((x.weak fun a y => y.1).updM hp trivial (fun a fa => nf a fa) |>.weak fun a y => y.weak id fun h => (Bool.and_eq_true_iff.mp h).2)
    · rw [if_neg hl] at q
      exact q.elim
theorem s_setI (hk : Δ[i]? = some (.own .l fr)) (h : SE K W Δ te (.v true fr') ge) (h2 : SE K W Δ ti (.v av av') gi) : SS K W L Δ (Δ.set i (.own .l (fr && fr'))) Δb Δc (tAsg te (gSub (tVar i) ti rSetL)) (gSetI i ge gi) := fun f ρ σ H E r q => h f ρ σ H _ r <| by
  obtain ⟨p, d, g1, g2, g3, vs, ds, ed, g4, g5⟩ := r.ow i .l fr hk
  subst ed
  unfold gSetI at q
  cases e : ge ρ with
  | bad => rw [e] at q; exact q
  | ex z => rw [e] at q; exact fun H' s => q σ H' (r.ext.trans s)
  | ok d =>
    rw [e, bnd_ok, g2] at q
    simp only at q
    intro v H1 s x
    refine ⟨_, g1, h2 f ρ σ H1 _ (r.mono s) ?_⟩
    cases e2 : gi ρ with
    | bad => rw [e2] at q; exact q
    | ex z => rw [e2] at q; exact fun H' s2 => q σ H' ((r.ext.trans s).trans s2)
    | ok k =>
      rw [e2, bnd_ok] at q
      intro kv H2 s2 xk
      cases k with
      | int k =>
        simp only at q
        cases ej : ixN ds.length k with
        | none => rw [ej] at q; exact q.elim
        | some j =>
          rw [ej] at q
          rw [rpInt xk]
          have s12 := s.trans s2
          have hp := s12 _ _ g4
          refine ⟨p, vs, k, j, rfl, rfl, hp, by rw [g5.length]; exact ej, q σ _ ?_⟩
          refine (r.mono s12).updOwn hk g1 (c' := .l) (show Mutb (.lst _) from trivial) ⟨_, _, rfl, upd_same, ?_⟩
          have nf : ∀ {fr : Bool} (a : Addr), FM f Δ σ true fr a → a ≠ p := fun a fa z => (fa.1 rfl).1 (z ▸ ⟨i, .l, _, hk, g1⟩)
          exact RpA.set ((Rp.updM hp trivial (fun a fa => nf a fa) (x.same s2)).weak fun a y => y.weak id fun h => (Bool.and_eq_true_iff.mp h).2) j
            (((g5.same s12).updM hp trivial fun a fa => nf a fa).weak fun a y => y.weak id fun h => (Bool.and_eq_true_iff.mp h).1)
      | _ => exact q.elim
theorem s_if (h : ST K W Δ tt gt) (h1 : SS K W L Δ Δn Δb Δc t ga) (h2 : SS K W L Δ Δn Δb Δc u gb) : SS K W L Δ Δn Δb Δc (tIfS tt t u) (gIfS gt ga gb) := fun f ρ σ H E r q => h f ρ σ H _ r <| by
  unfold gIfS at q
  cases e : gt ρ with
  | bad => rw [e] at q; exact q
  | ex z => rw [e] at q; exact fun H' s => q σ H' (r.ext.trans s)
  | ok c =>
    rw [e, bnd_ok] at q
    intro H1 s
    cases c with
    | true => exact h1 f ρ σ H1 E (r.mono s) q
    | false => exact h2 f ρ σ H1 E (r.mono s) q
theorem s_brk : SS K W L Δ Δn Δ Δc tBreak (fun ρ => .ok (.bk ρ)) := fun f ρ σ H E r q => q σ H r
theorem s_cont : SS K W L Δ Δn Δb Δ tCont (fun ρ => .ok (.ct ρ)) := fun f ρ σ H E r q => q σ H r
theorem s_while (n : Nat) (h : ST K W Δ tt gt) (hb : SS K W L Δ Δ Δ Δ t gb) : SS K W L Δ Δ Δb Δc (tWhile tt t) (gWhile gt gb n) := fun f ρ σ H E r q => by
  refine ⟨fun m σ H => ∃ ρ, R K f Δ ρ σ H ∧ PoS K W L f Δ Δb Δc (gWhile gt gb m ρ) E, ⟨n, ρ, r, q⟩, ?_⟩
  rintro m σ1 H1 ⟨ρ1, r1, q1⟩
  cases m with
  | zero => exact q1.elim
  | succ m =>
    refine h f ρ1 σ1 H1 _ r1 ?_
    unfold gWhile at q1
    cases e : gt ρ1 with
    | bad => rw [e] at q1; exact q1
    | ex z => rw [e] at q1; exact fun H' s => q1 σ1 H' (r1.ext.trans s)
    | ok c =>
      rw [e, bnd_ok] at q1
      intro H2 s2
      cases c with
      | false => exact q1 σ1 H2 (r1.mono s2)
      | true =>
        show (if true = true then _ else _)
        rw [if_pos rfl]
        refine ⟨fun σ' H' => ∃ ρ', R K f Δ ρ' σ' H' ∧ PoS K W L f Δ Δb Δc (gWhile gt gb m ρ') E, fun σ' H' w => ⟨m, Nat.lt_succ_self m, w⟩, hb f ρ1 σ1 H2 _ (r1.mono s2) ?_⟩
        have q1 : PoS K W L f Δ Δb Δc (bnd (gb ρ1) fun fl => match fl with | .nx ρ' => gWhile gt gb m ρ' | .ct ρ' => gWhile gt gb m ρ' | .bk ρ' => .ok (.nx ρ') | .rt d => .ok (.rt d)) E := q1
        cases e2 : gb ρ1 with
        | bad => rw [e2] at q1; exact q1
        | ex z => rw [e2] at q1; exact q1
        | ok fl =>
          rw [e2, bnd_ok] at q1
          cases fl with
          | nx ρ' => exact fun σ' H' r' => ⟨ρ', r', q1⟩
          | ct ρ' => exact fun σ' H' r' => ⟨ρ', r', q1⟩
          | bk ρ' => exact q1
          | rt d => exact q1
theorem PoS.toG {f : Fm} {gg : List V × List Dt × Bool} {o : O Fl} {E : Ends} (q : PoS K W L f Δn Δb Δc o E) : PoS K W L { f with Γ := gg :: f.Γ } Δn Δb Δc o E := by
  cases o with
  | bad => exact q
  | ex z => exact q
  | ok fl =>
    cases fl with
    | nx ρ => exact fun σ' H' r => q σ' H' r.dropG
    | rt d => exact q
    | bk ρ => exact fun σ' H' r => q σ' H' r.dropG
    | ct ρ => exact fun σ' H' r => q σ' H' r.dropG
theorem s_for {wi : TI} {gg : TG} {sl : List Nat} {n : Nat} {hh : Dt → List Dt → O (List Dt)} {TK : Bool → List Kd → List Kd} {gI : List Dt → O (List Dt)} (hn : Δ.length = n) (h : SI K W Δ wi false fr gI) (hg : GJ K n gg sl hh TK) (hb : SS K W L (TK fr Δ) Δ Δ Δ t gb) :
    SS K W L Δ Δ Δb Δc (tFor wi gg t) (gFor gI hh gb) := fun f ρ σ H E r q => h f ρ σ H _ r <| by
  unfold gFor at q
  cases e : gI ρ with
  | bad => rw [e] at q; exact q
  | ex z => rw [e] at q; exact fun H' s => q σ H' (r.ext.trans s)
  | ok ds =>
    rw [e, bnd_ok] at q
    intro J H1 pf vs es s1 hpf _ x sc
    have hpf := hpf rfl
    subst hpf
    have r1 := (r.mono s1).addG (fr := fr) x
    have q1 := q.toG (gg := (vs, es, fr))
    generalize hf1 : ({ f with Γ := (vs, es, fr) :: f.Γ } : Fm) = f1 at r1 q1
    have gG : (vs, es, fr) ∈ f1.Γ := by rw [← hf1]; exact List.mem_cons_self
    refine ⟨fun i m σ H => m = ds.length - i ∧ i ≤ ds.length ∧ ∃ ρ, R K f1 Δ ρ σ H ∧ PoS K W L f1 Δ Δb Δc (forE hh gb (ds.drop i) ρ) E, ⟨ds.length, by simp, Nat.zero_le _, ρ, r1, q1⟩, ?_⟩
    rintro i m σ2 H2 ⟨rfl, hi, ρ2, r2, q2⟩
    have stand : (∀ q, (none : Option (Addr × HO)) = some q → H2 q.1 = some q.2) ∧ ∃ F, RpA K F H2 vs es := ⟨fun _ e => (nomatch e), _, r2.gh _ gG⟩
    by_cases hlt : i < ds.length
    · refine .inr ⟨sc.goes i H2 hlt stand, fun σ' H' => i + 1 ≤ ds.length ∧ ∃ ρ, R K f1 Δ ρ σ' H' ∧ PoS K W L f1 Δ Δb Δc (forE hh gb (ds.drop (i + 1)) ρ) E, fun σ' H' w => ⟨ds.length - (i + 1), by omega, rfl, w⟩, fun x H3 hy => ?_⟩
      obtain ⟨s3, hx⟩ := sc.yields i H2 x H3 hlt stand hy
      obtain ⟨d, hd, x3⟩ := hx _ (r2.gh _ gG)
      have edrop : ds.drop i = d :: ds.drop (i + 1) := by
        have hd' := (List.getElem?_eq_some_iff.mp hd).2
        rw [List.drop_eq_getElem_cons hlt, hd']
      rw [edrop] at q2
      unfold forE at q2
      refine hg f1 Δ ρ2 σ2 H3 x d fr _ hn (r2.mono s3) x3 ?_
      cases eh : hh d ρ2 with
      | bad => rw [eh] at q2; exact q2.elim
      | ex z => rw [eh] at q2; exact q2.elim
      | ok ρ3 =>
        rw [eh] at q2
        simp only at q2
        intro σ4 t4
        refine hb f1 ρ3 σ4 H3 _ t4.r ?_
        cases e2 : gb ρ3 with
        | bad => rw [e2] at q2; exact q2
        | ex z => rw [e2] at q2; exact q2
        | ok fl =>
          rw [e2, bnd_ok] at q2
          cases fl with
          | nx ρ' => exact fun σ' H' r' => ⟨hlt, ρ', r', q2⟩
          | ct ρ' => exact fun σ' H' r' => ⟨hlt, ρ', r', q2⟩
          | bk ρ' => exact q2
          | rt d => exact q2
    · have ei : i = ds.length := by omega
      subst ei
      rw [List.drop_length] at q2
      exact .inl ⟨sc.stops H2 stand, q2 σ2 H2 r2⟩
end

/-! ### promises, calls -/
def Wcls (mg : Str → Option Value) (e : Exn) (E : XK) (H' : Hp) : Prop := ∀ C, mg e.cls = some (.ref C) → match e.arg with
  | none => E (.ref C) none H'
  | some m => ∀ d, H' d = some (.xd [("moment", .int m)]) → E (.ref C) (some d) H'
def spG (K : PySem.W.Frag) (mg : Str → Option Value) (n : Nat) (g : List Dt → O Dt) : Sp := fun vs H Q E => ∃ ds, vs.length = n ∧ RpA K (fun _ => True) H vs ds ∧ (match g ds with
  | .bad => False
  | .ex e => ∀ H', Same H H' → Wcls mg e E H'
  | .ok d => ∀ v H', Same H H' → Rp K (fun a => H a = none) H' v d → Q v H')
/-- what is told may hold what was handed in -/
def spA (K : PySem.W.Frag) (mg : Str → Option Value) (n : Nat) (g : List Dt → O Dt) : Sp := fun vs H Q E => ∃ ds F, vs.length = n ∧ RpA K F H vs ds ∧ (match g ds with
  | .bad => False
  | .ex e => ∀ H', Same H H' → Wcls mg e E H'
  | .ok d => ∀ v H', Same H H' → Rp K (fun a => F a ∨ H a = none) H' v d → Q v H')
/-- a new list is told -/
def spL (K : PySem.W.Frag) (mg : Str → Option Value) (n : Nat) (g : List Dt → O Dt) : Sp := fun vs H Q E => ∃ ds, vs.length = n ∧ RpA K (fun _ => True) H vs ds ∧ (match g ds with
  | .bad => False
  | .ex e => ∀ H', Same H H' → Wcls mg e E H'
  | .ok d => ∀ p H', H p = none → Same H H' → OwC K .l (fun a => H a = none ∧ a ≠ p) H' p d → Q (.ref p) H')
def gCallN (n : Nat) (g : List Dt → O Dt) (gA : List Dt → O (List Dt)) : Gd := fun ρ => bnd (gA ρ) fun ds => if ds.length = n then (match g ds with
  | .ok d => .ok d
  | _ => .bad) else .bad
section
variable {K : PySem.W.Frag} {W : Wt} {Δ : List Kd} {ta : TA} {gA : List Dt → O (List Dt)} {av fr : Bool} {mg : Str → Option Value} {n : Nat} {g : List Dt → O Dt}
theorem se_callN (h : SA K W Δ ta av fr gA) : SE K W Δ (tCall (spG K mg n g) [] E0 ta) (.v true true) (gCallN n g gA) := fun f ρ σ H Q r q => h f ρ σ H _ r <| by
  unfold gCallN at q
  cases e : gA ρ with
  | bad => rw [e] at q; exact q
  | ex z => rw [e] at q; exact q
  | ok ds =>
    rw [e, bnd_ok] at q
    intro vs H1 s1 x1
    by_cases hn : ds.length = n
    · rw [if_pos hn] at q
      rw [List.append_nil]
      refine ⟨ds, by rw [x1.length]; exact hn, x1.weak fun _ _ => trivial, ?_⟩
      cases e2 : g ds with
      | bad => rw [e2] at q; exact q.elim
      | ex z => rw [e2] at q; exact q.elim
      | ok d =>
        rw [e2] at q
        intro v H2 s2 x2
        refine q v H2 (s1.trans s2) (x2.weak fun a na => ?_)
        obtain ⟨f1, f2, f3⟩ := (r.mono s1).fresh na
        exact ⟨fun _ => ⟨f1, f2⟩, fun _ => r.g0 a f3⟩
    · rw [if_neg hn] at q
      exact q.elim
theorem se_callL (h : SA K W Δ ta av fr gA) : SE K W Δ (tCall (spL K mg n g) [] E0 ta) (.new .l true) (gCallN n g gA) := fun f ρ σ H Q r q => h f ρ σ H _ r <| by
  unfold gCallN at q
  cases e : gA ρ with
  | bad => rw [e] at q; exact q
  | ex z => rw [e] at q; exact q
  | ok ds =>
    rw [e, bnd_ok] at q
    intro vs H1 s1 x1
    by_cases hn : ds.length = n
    · rw [if_pos hn] at q
      rw [List.append_nil]
      refine ⟨ds, by rw [x1.length]; exact hn, x1.weak fun _ _ => trivial, ?_⟩
      cases e2 : g ds with
      | bad => rw [e2] at q; exact q.elim
      | ex z => rw [e2] at q; exact q.elim
      | ok d =>
        rw [e2] at q
        intro p H2 np s2 x2
        refine q p H2 (s1.free np) (s1.trans s2) (x2.map (fun _ e => e) fun _ _ y => y.weak fun a na => ?_)
        obtain ⟨f1, f2, f3⟩ := (r.mono s1).fresh na.1
        exact ⟨⟨fun _ => ⟨f1, f2⟩, fun _ => r.g0 a f3⟩, na.2⟩
    · rw [if_neg hn] at q
      exact q.elim
theorem se_callA (h : SA K W Δ ta av fr gA) : SE K W Δ (tCall (spA K mg n g) [] E0 ta) (.v av fr) (gCallN n g gA) := fun f ρ σ H Q r q => h f ρ σ H _ r <| by
  unfold gCallN at q
  cases e : gA ρ with
  | bad => rw [e] at q; exact q
  | ex z => rw [e] at q; exact q
  | ok ds =>
    rw [e, bnd_ok] at q
    intro vs H1 s1 x1
    by_cases hn : ds.length = n
    · rw [if_pos hn] at q
      rw [List.append_nil]
      refine ⟨ds, _, by rw [x1.length]; exact hn, x1, ?_⟩
      cases e2 : g ds with
      | bad => rw [e2] at q; exact q.elim
      | ex z => rw [e2] at q; exact q.elim
      | ok d =>
        rw [e2] at q
        intro v H2 s2 x2
        refine q v H2 (s1.trans s2) (x2.weak fun a na => ?_)
        rcases na with na | na
        · exact na
        · obtain ⟨f1, f2, f3⟩ := (r.mono s1).fresh na
          exact ⟨fun _ => ⟨f1, f2⟩, fun _ => r.g0 a f3⟩
    · rw [if_neg hn] at q
      exact q.elim
end
end Sim
end T_SimF

section T_SimG
set_option Elab.async false
set_option linter.all false
set_option maxRecDepth 100000
/-! SimG: the rules for a text: subscripts, walks, comprehensions, calls, statements, defs. -/
namespace Sim
open PySem PySem.Spec L2
open PyProof.Rows hiding St

section
variable {X : Cx} {K : PySem.W.Frag} {W : Wt} {Δ Δ1 Δn Δb Δc : List Kd} {a b c e elt tg iter : Expr} {es ifs : List Expr} {ta tb tc te : TE} {tt tu : TT} {tA : TA} {ga gb gc g ge gi : Gd} {gt gu : List Dt → O Bool} {gA gI : List Dt → O (List Dt)} {k k1 k2 : Rk} {av fr av' fr' : Bool} {L : Lk} {pos : Pos} {t u : TS} {g1 g2 : Gs}

/-! subscripts, slices -/
theorem x_ix (ha : PD X K W Δ a ta (.v av fr) ga) (hb : PD X K W Δ b tb (.v av' fr') gb) (hs : PlainIx b := by exact fun _ _ => rfl) : PD X K W Δ (.Subscript a b pos) (tOp (rIx K) ta tb) (.v av fr) (gOp hIx ga gb) :=
  ⟨pe_ix (by have q := ix_seq (X := X); rw [ha.hK] at q; exact q) ha.pe hb.pe hs, ha.hK, se_ix ha.se hb.se⟩
theorem x_ixO (ha : PD X K W Δ a ta (.o fr) ga) (hb : PD X K W Δ b tb (.v av' fr') gb) (hs : PlainIx b := by exact fun _ _ => rfl) : PD X K W Δ (.Subscript a b pos) (tOp (rIx K) ta tb) (.v true fr) (gOp hIx ga gb) :=
  ⟨pe_ix (by have q := ix_seq (X := X); rw [ha.hK] at q; exact q) ha.pe hb.pe hs, ha.hK, se_ixO ha.se hb.se⟩
structure OD (X : Cx) (K : PySem.W.Frag) (W : Wt) (Δ : List Kd) (e : Option Expr) (to : TOp) (g : List Dt → O (Option Int)) : Prop where
  po : PO X e to
  so : SO K W Δ to g
theorem o_none : OD X K W Δ none tNoPart gNoPart := ⟨po_none, so_none⟩
theorem o_some (h : PD X K W Δ e te (.v av fr) g) : OD X K W Δ (some e) (tPart te) (gPart g) := ⟨po_some h.pe, so_some h.se⟩
theorem x_sl {lo hi : Option Expr} {tl th : TOp} {gl gh : List Dt → O (Option Int)} {p2 : Pos} (h : PD X K W Δ e te (.v true fr) g) (h1 : OD X K W Δ lo tl gl) (h2 : OD X K W Δ hi th gh) : PD X K W Δ (.Subscript e (.Slice lo hi none p2) pos) (tSl (rSlL K) te tl th) (.new .l fr) (gSl hSl g gl gh) :=
  ⟨pe_slice (by have q := sl_list (X := X); rw [h.hK] at q; exact q) h.pe h1.po h2.po, h.hK, se_sl h.se h1.so h2.so⟩
theorem x_slO {lo hi : Option Expr} {tl th : TOp} {gl gh : List Dt → O (Option Int)} {p2 : Pos} (h : PD X K W Δ e te (.o fr) g) (h1 : OD X K W Δ lo tl gl) (h2 : OD X K W Δ hi th gh) : PD X K W Δ (.Subscript e (.Slice lo hi none p2) pos) (tSl (rSlL K) te tl th) (.new .l fr) (gSl hSl g gl gh) :=
  ⟨pe_slice (by have q := sl_list (X := X); rw [h.hK] at q; exact q) h.pe h1.po h2.po, h.hK, se_slO h.se h1.so h2.so⟩
theorem x_slT {lo hi : Option Expr} {tl th : TOp} {gl gh : List Dt → O (Option Int)} {p2 : Pos} (h : PD X K W Δ e te (.v av fr) g) (h1 : OD X K W Δ lo tl gl) (h2 : OD X K W Δ hi th gh) : PD X K W Δ (.Subscript e (.Slice lo hi none p2) pos) (tSl (rSlA K) te tl th) (.v av fr) (gSl hSlT g gl gh) :=
  ⟨pe_slice (by have q := sl_tupA (X := X); rw [h.hK] at q; exact q) h.pe h1.po h2.po, h.hK, se_slT h.se h1.so h2.so⟩

/-! list + list, list * int -/
theorem x_cat (ha : PD X K W Δ a ta (.v true fr) ga) (hb : PD X K W Δ b tb (.v true fr') gb) : PD X K W Δ (.BinOp a .Add b pos) (tOp (rCatS K) ta tb) (.new .l (fr && fr')) (gOp hCat ga gb) :=
  ⟨pe_op (by have q := op_catS (X := X); rw [ha.hK] at q; exact q) ha.pe hb.pe, ha.hK, se_cat ha.se hb.se⟩
theorem x_catO (ha : PD X K W Δ a ta (.o fr) ga) (hb : PD X K W Δ b tb (.v true fr') gb) : PD X K W Δ (.BinOp a .Add b pos) (tOp (rCatS K) ta tb) (.new .l (fr && fr')) (gOp hCat ga gb) :=
  ⟨pe_op (by have q := op_catS (X := X); rw [ha.hK] at q; exact q) ha.pe hb.pe, ha.hK, se_catO ha.se hb.se⟩
theorem x_rep (ha : PD X K W Δ a ta (.new .l fr) ga) (hb : PD X K W Δ b tb (.v av' fr') gb) : PD X K W Δ (.BinOp a .Mult b pos) (tOp rRep ta tb) (.new .l fr) (gOp hRep ga gb) := ⟨pe_op op_rep ha.pe hb.pe, ha.hK, se_rep ha.se hb.se⟩

/-! list(x), tuple(x), sorted(x) -/
theorem x_list {x : Str} {p : Pos} (hm : X.mg x = none) (h : AD X K W Δ (e :: es) tA true fr gA) (hv : bootBuiltins x = some (.type "list") := by decide +kernel) (hg : Gl X x := by rfl) (hn : x ≠ "__name__" := by decide) (hdb : (x == ("__debug__" : Str)) = false := by decide)
    (he : starEach (e :: es) X.env = (false, eval e X.env) :: starEach es X.env := by rfl) (hpl : (backTo pos (starEach es X.env)).any (·.1) = false := by rfl) :
    PD X K W Δ (.Call (.Name x p) (e :: es) [] pos) (tCB (rListOf K) tA) (.new .l fr) (gCB (one hListOf) gA) :=
  ⟨pe_callTy (by have q := call_list_of (X := X); rw [h.hK] at q; exact q) hg hm hv h.pa hn hdb he hpl, h.hK, se_listOf h.sa⟩
theorem x_listO {x : Str} {p : Pos} (hm : X.mg x = none) (h : PD X K W Δ e te (.o fr) g) (hv : bootBuiltins x = some (.type "list") := by decide +kernel) (hg : Gl X x := by rfl) (hn : x ≠ "__name__" := by decide) (hdb : (x == ("__debug__" : Str)) = false := by decide)
    (he : starEach [e] X.env = (false, eval e X.env) :: starEach [] X.env := by rfl) (hpl : (backTo pos (starEach [] X.env)).any (·.1) = false := by rfl) :
    PD X K W Δ (.Call (.Name x p) [e] [] pos) (tCB (rListOf K) (tCons te tNil)) (.new .l fr) (gCB (one hListOf) (gCons g gNil)) :=
  ⟨pe_callTy (by have q := call_list_of (X := X); rw [h.hK] at q; exact q) hg hm hv (pa_cons h.pe pa_nil he) hn hdb he hpl, h.hK, se_listOwn h.se⟩
theorem x_tuple {x : Str} {p : Pos} (hm : X.mg x = none) (h : AD X K W Δ (e :: es) tA av fr gA) (hv : bootBuiltins x = some (.type "tuple") := by decide +kernel) (hg : Gl X x := by rfl) (hn : x ≠ "__name__" := by decide) (hdb : (x == ("__debug__" : Str)) = false := by decide)
    (he : starEach (e :: es) X.env = (false, eval e X.env) :: starEach es X.env := by rfl) (hpl : (backTo pos (starEach es X.env)).any (·.1) = false := by rfl) :
    PD X K W Δ (.Call (.Name x p) (e :: es) [] pos) (tCB (fun xs H Q => ∃ p ys, xs = [.ref p] ∧ ((SqL K H p ys ∧ ∀ l, H l = none → Q (.ref l) (upd H l (.tup ys))) ∨ (SqT K H p ys ∧ Q (.ref p) H))) tA) (.v av fr) (gCB (one hTupOf) gA) :=
  ⟨pe_callTy (by have q := call_tuple_of (X := X); rw [h.hK] at q; exact q) hg hm hv h.pa hn hdb he hpl, h.hK, se_tupOf h.sa⟩
theorem x_sorted {x : Str} {p : Pos} (hm : X.mg x = none) (h : AD X K W Δ (e :: es) tA av fr gA) (hv : bootBuiltins x = some (.builtin "sorted") := by decide +kernel) (hg : Gl X x := by rfl) (hn : x ≠ "__name__" := by decide) (hdb : (x == ("__debug__" : Str)) = false := by decide)
    (he : starEach (e :: es) X.env = (false, eval e X.env) :: starEach es X.env := by rfl) (hpl : (backTo pos (starEach es X.env)).any (·.1) = false := by rfl) :
    PD X K W Δ (.Call (.Name x p) (e :: es) [] pos) (tCB (rSortedI K) tA) (.new .l true) (gCB (one hSorted) gA) :=
  ⟨pe_callB (by have q := cr_sortedI (X := X); rw [h.hK] at q; exact q) hg hm hv h.pa hn hdb he hpl, h.hK, se_sorted h.sa⟩

/-! what is walked -/
theorem i_seq (h : PD X K W Δ e te (.v true fr) g) : ID X K W Δ tg e (iSeq K te) false fr (gSeq g) := ⟨by have q := pi_seq (tg := tg) h.pe; rw [h.hK] at q; exact q, h.hK, si_seq h.se⟩
theorem i_own (h : PD X K W Δ e te (.o fr) g) : ID X K W Δ tg e (iSeq K te) true fr (gSeq g) := ⟨by have q := pi_seq (tg := tg) h.pe; rw [h.hK] at q; exact q, h.hK, si_own h.se⟩
theorem i_rng1 {p : Pos} (hm : X.mg "range" = none) (h : AD X K W Δ [a] tA av fr gA) (hg : Gl X "range" := by rfl) (hs : starEach [a] X.env = [(false, eval a X.env)] := by rfl) : ID X K W Δ tg (.Call (.Name "range" p) [a] [] pos) (iRng1 tA) false true (gRng1 gA) := ⟨pi_range1 hg hm h.pa hs, h.hK, si_rng1 h.sa⟩
theorem i_rng2 {p : Pos} (hm : X.mg "range" = none) (h : AD X K W Δ [a, b] tA av fr gA) (hg : Gl X "range" := by rfl) (hs : starEach [a, b] X.env = [(false, eval a X.env), (false, eval b X.env)] := by rfl) (hs2 : starEach [b] X.env = [(false, eval b X.env)] := by rfl) :
    ID X K W Δ tg (.Call (.Name "range" p) [a, b] [] pos) (iRng2 tA) false true (gRng2 gA) := ⟨pi_range2 hg hm h.pa hs hs2, h.hK, si_rng2 h.sa⟩

/-! targets -/
theorem g_tup {n m kk : Nat} {gs : TGs} {sl : List Nat} {u : List Dt → List Dt → O (List Dt)} {T : Bool → List Kd → List Kd} (hc : X.calm = true) (h : GDs X K n es gs sl u T) (hm : ∀ ds ρ, ds.length ≠ m → ∀ z, u ds ρ ≠ .ok z) (hl : (assignEach es X.env).length = m := by rfl) (hst : List.findIdx? (fun x => x.fst) (assignEach es X.env) = none := by rfl) :
    GD X K n (.Tuple es kk pos) (L2.gTup K m gs) sl (tgT u) T := ⟨by have q := pg_tup (X := X) (k := kk) (n := m) (pos := pos) hc h.pg hl hst; rw [h.hK] at q; exact q, h.hK, gj_tup h.gj hm⟩

/-! comprehensions -/
structure TsD (X : Cx) (K : PySem.W.Frag) (Δ : List Kd) (ifs : List Expr) (tt : TT) (g : List Dt → O Bool) : Prop where
  pts : PTs X ifs tt
  st : ST K W0 Δ tt g
theorem t_nil : TsD X K Δ [] tYes gYes := ⟨pts_nil, fun f ρ σ H Q r q => q H (Same.refl H)⟩
theorem t_one (h : TD X K W0 Δ c tt gt) : TsD X K Δ [c] tt gt := ⟨pts_one h.pt, h.st⟩

theorem x_lc {n : Nat} {scope : Scope} (own : List (Str × Nat)) {wi : TI} {gg : TG} {sl : List Nat} {hh : Dt → List Dt → O (List Dt)} {TK : Bool → List Kd → List Kd} {bb : Bool} (hN : X.N.Nodup) (hi : ID X K W Δ tg iter wi bb fr gI) (ok : blkC X.N X.env.scope scope own = true)
    (hg : ∀ (s : Shared) (H : Hp) (C : Addr) (cl : List (Str × Addr)) (fp : List Addr), GD (X.blk s H scope (compEnvC scope cl C X.env) fp) K n tg gg sl hh TK)
    (ht : ∀ (s : Shared) (H : Hp) (C : Addr) (cl : List (Str × Addr)) (fp : List Addr), TsD (X.blk s H scope (compEnvC scope cl C X.env) fp) K (TK fr (wipeK Δ (own.map (·.2)))) ifs tt gt)
    (he : ∀ (s : Shared) (H : Hp) (C : Addr) (cl : List (Str × Addr)) (fp : List Addr), PD (X.blk s H scope (compEnvC scope cl C X.env) fp) K W0 (TK fr (wipeK Δ (own.map (·.2)))) elt te (.v true fr') ge)
    (hn : Δ.length = n := by rfl) (hsl : ∀ i ∈ sl, i ∈ own.map (·.2) := by decide) (no : noOwn Δ (own.map (·.2)) = true := by rfl) (hc : X.calm = true := by rfl) (hs : ∀ x, foldedSetIterable iter X.env x = pure x := by intro _; rfl) :
    PD X K W Δ (.ListComp elt [⟨tg, iter, ifs, 0⟩] scope pos) (tLc wi gg tt te (own.map (·.2))) (.new .l fr') (gLc gI hh gt ge) :=
  ⟨pe_lc hc hN hi.pi (blkOk_by ok) (fun s H C cl fp => (hg s H C cl fp).pg) (fun s H C cl fp => (ht s H C cl fp).pts) (fun s H C cl fp => (he s H C cl fp).pe) hs, hi.hK,
    se_lc hi.si (hg X.s_0 X.H_0 0 [] []).gj hn hsl no (ht X.s_0 X.H_0 0 [] []).st (he X.s_0 X.H_0 0 [] []).se⟩

/-! calls -/
theorem x_callN {x : Str} {p : Pos} {CXT' : CXT} {kk nn : Nat} {fa : Addr} {fd : FuncData} {ps : List Str} {gg : List Dt → O Dt} {mg : Str → Option Value} (F : FnOk X.prog X.w X.K X.mg X.base CXT' kk fa fd ps (spG K mg nn gg)) (hr : Room kk X.A) (hm : X.mg x = some (.ref fa)) (hk : PySem.W.keepIn X.K (.ref fa) = true) (hb : Binds X.K fd ps [])
    (hx : Passes CXT' X E0) (h : AD X K W Δ (e :: es) tA av fr gA) (hg : Gl X x := by rfl) (hdb : (x == ("__debug__" : Str)) = false := by decide) (he : starEach (e :: es) X.env = (false, eval e X.env) :: starEach es X.env := by rfl) (hpl : (backTo pos (starEach es X.env)).any (·.1) = false := by rfl) :
    PD X K W Δ (.Call (.Name x p) (e :: es) [] pos) (tCall (spG K mg nn gg) [] E0 tA) (.v true true) (gCallN nn gg gA) := ⟨pe_call F hr hg hm hk hb .nil hx h.pa hdb he hpl, h.hK, se_callN h.sa⟩
theorem x_callL {x : Str} {p : Pos} {CXT' : CXT} {kk nn : Nat} {fa : Addr} {fd : FuncData} {ps : List Str} {gg : List Dt → O Dt} {mg : Str → Option Value} (F : FnOk X.prog X.w X.K X.mg X.base CXT' kk fa fd ps (spL K mg nn gg)) (hr : Room kk X.A) (hm : X.mg x = some (.ref fa)) (hk : PySem.W.keepIn X.K (.ref fa) = true) (hb : Binds X.K fd ps [])
    (hx : Passes CXT' X E0) (h : AD X K W Δ (e :: es) tA av fr gA) (hg : Gl X x := by rfl) (hdb : (x == ("__debug__" : Str)) = false := by decide) (he : starEach (e :: es) X.env = (false, eval e X.env) :: starEach es X.env := by rfl) (hpl : (backTo pos (starEach es X.env)).any (·.1) = false := by rfl) :
    PD X K W Δ (.Call (.Name x p) (e :: es) [] pos) (tCall (spL K mg nn gg) [] E0 tA) (.new .l true) (gCallN nn gg gA) := ⟨pe_call F hr hg hm hk hb .nil hx h.pa hdb he hpl, h.hK, se_callL h.sa⟩
theorem x_callA {x : Str} {p : Pos} {CXT' : CXT} {kk nn : Nat} {fa : Addr} {fd : FuncData} {ps : List Str} {gg : List Dt → O Dt} {mg : Str → Option Value} (F : FnOk X.prog X.w X.K X.mg X.base CXT' kk fa fd ps (spA K mg nn gg)) (hr : Room kk X.A) (hm : X.mg x = some (.ref fa)) (hk : PySem.W.keepIn X.K (.ref fa) = true) (hb : Binds X.K fd ps [])
    (hx : Passes CXT' X E0) (h : AD X K W Δ (e :: es) tA av fr gA) (hg : Gl X x := by rfl) (hdb : (x == ("__debug__" : Str)) = false := by decide) (he : starEach (e :: es) X.env = (false, eval e X.env) :: starEach es X.env := by rfl) (hpl : (backTo pos (starEach es X.env)).any (·.1) = false := by rfl) :
    PD X K W Δ (.Call (.Name x p) (e :: es) [] pos) (tCall (spA K mg nn gg) [] E0 tA) (.v av fr) (gCallN nn gg gA) := ⟨pe_call F hr hg hm hk hb .nil hx h.pa hdb he hpl, h.hK, se_callA h.sa⟩
end

/-! ### statements -/
structure SD (X : Cx) (K : PySem.W.Frag) (W : Wt) (L : Lk) (Δ Δn Δb Δc : List Kd) (st : Stmt) (ts : TS) (g : Gs) : Prop where
  ps : PS X st ts
  hK : X.K = K
  ss : SS K W L Δ Δn Δb Δc ts g
structure BD (X : Cx) (K : PySem.W.Frag) (W : Wt) (L : Lk) (Δ Δn Δb Δc : List Kd) (sts : List Stmt) (ts : TS) (g : Gs) : Prop where
  ps : PSs X sts ts
  hK : X.K = K
  ss : SS K W L Δ Δn Δb Δc ts g
section
variable {X : Cx} {K : PySem.W.Frag} {W : Wt} {Δ Δ1 Δ2 Δn Δb Δc : List Kd} {a b c e elt tg iter : Expr} {es ifs : List Expr} {ta tb tc te ti : TE} {tt tu : TT} {tA : TA} {ga gb gc g ge gi : Gd} {gt gu : List Dt → O Bool} {gA gI : List Dt → O (List Dt)} {k k1 k2 : Rk} {av fr av' fr' : Bool} {L : Lk} {pos pos' : Pos} {t u : TS} {g1 g2 : Gs} {st : Stmt} {sts sts2 : List Stmt}

theorem SD.pre (h : SD X K W L Δ1 Δn Δb Δc st t g1) (l : leA Δ Δ1 = true := by rfl) : SD X K W L Δ Δn Δb Δc st t g1 := ⟨h.ps, h.hK, h.ss.pre l⟩
theorem BD.post {Δn' Δb' Δc' : List Kd} (h : BD X K W L Δ Δn Δb Δc sts t g1) (ln : leA Δn Δn' = true := by rfl) (lb : leA Δb Δb' = true := by rfl) (lc : leA Δc Δc' = true := by rfl) : BD X K W L Δ Δn' Δb' Δc' sts t g1 := ⟨h.ps, h.hK, h.ss.post ln lb lc⟩
theorem b_nil (hK : X.K = K := by rfl) : BD X K W L Δ Δ Δb Δc [] tNext gNext := ⟨pss_nil, hK, s_next⟩
theorem b_one (h : SD X K W L Δ Δn Δb Δc st t g1) : BD X K W L Δ Δn Δb Δc [st] t g1 := ⟨pss_one h.ps, h.hK, h.ss⟩
theorem b_cons (h : SD X K W L Δ Δ1 Δb Δc st t g1) (h2 : BD X K W L Δ1 Δn Δb Δc sts u g2) : BD X K W L Δ Δn Δb Δc (st :: sts) (tSeq t u) (gSeqS g1 g2) := ⟨pss_cons h.ps h2.ps, h.hK, s_seq h.ss h2.ss⟩

theorem z_ret (h : PD X K W Δ e te (.v av true) g) : SD X K W .n Δ Δn Δb Δc (.Return (some e) pos) (tRet te) (gRet g) := ⟨ps_ret h.pe, h.hK, s_ret h.se⟩
theorem z_retL (h : PD X K W Δ e te (.new .l true) g) : SD X K W .l Δ Δn Δb Δc (.Return (some e) pos) (tRet te) (gRet g) := ⟨ps_ret h.pe, h.hK, s_retL h.se⟩
theorem z_retO (i : Nat) {x : Str} {p : Pos} (hk : Δ[i]? = some (.own .l true) := by rfl) (hN : X.N[i]? = some x := by rfl) (hv : Vis X.env.scope x := by first | exact Or.inl rfl | exact Or.inr (Or.inl rfl) | exact Or.inr (Or.inr rfl)) (hd : (x == ("__debug__" : Str)) = false := by decide)
    (hcd : (x == ("__classdict__" : Str)) = false := by decide) (hK : X.K = K := by rfl) : SD X K W .l Δ Δn Δb Δc (.Return (some (.Name x p)) pos) (tRet (tVar i)) (gRet (gVar i)) := ⟨ps_ret (pe_var hN hv hd hcd), hK, s_retO hk⟩
theorem z_retOp (i : Nat) {x : Str} {p : Pos} (hk : Δ[i]? = some (.own .l fr) := by rfl) (hN : X.N[i]? = some x := by rfl) (hv : Vis X.env.scope x := by first | exact Or.inl rfl | exact Or.inr (Or.inl rfl) | exact Or.inr (Or.inr rfl)) (hd : (x == ("__debug__" : Str)) = false := by decide)
    (hcd : (x == ("__classdict__" : Str)) = false := by decide) (hK : X.K = K := by rfl) : SD X K W .l Δ Δn Δb Δc (.Return (some (.Name x p)) pos) (tRet (tVar i)) (gRet (gPurV i)) := ⟨ps_ret (pe_var hN hv hd hcd), hK, s_retOp hk⟩
theorem z_expr (h : PD X K W Δ e te k g) (hs : swapsWith e none pos.line X.env = pure false := by rfl) : SD X K W L Δ Δ Δb Δc (.Expr e pos) (tDrop te) (gDrop g) := ⟨ps_expr h.pe hs, h.hK, s_drop h.se⟩
theorem z_set (i : Nat) {x : Str} (hN : X.N.Nodup) (h : PD X K W Δ e te (.v true fr) g) (hn : i < Δ.length := by decide) (hi : X.N[i]? = some x := by rfl) (hx : Loc X.env.scope x := by first | exact .inl rfl | exact .inr rfl) (hs : swapsWith e (some (.Name x pos')) pos.line X.env = pure false := by rfl) (hf : X.fn x = true ∨ X.env.scope.names.lookup x = some .local := by first | exact .inl rfl | exact .inr rfl) :
    SD X K W L Δ (Δ.set i (.im fr)) Δb Δc (.Assign [.Name x pos'] e pos) (tAsg te (gName i)) (gSet i g) := ⟨ps_set hN hi hx h.pe hs hf, h.hK, s_set hn h.se⟩
theorem z_setO (i : Nat) {x : Str} {ct : Ct} (hN : X.N.Nodup) (h : PD X K W Δ e te (.new ct fr) g) (hn : i < Δ.length := by decide) (hct : isArg ct = false := by rfl) (hi : X.N[i]? = some x := by rfl) (hx : Loc X.env.scope x := by first | exact .inl rfl | exact .inr rfl) (hs : swapsWith e (some (.Name x pos')) pos.line X.env = pure false := by rfl) (hf : X.fn x = true ∨ X.env.scope.names.lookup x = some .local := by first | exact .inl rfl | exact .inr rfl) :
    SD X K W L Δ (Δ.set i (.own ct fr)) Δb Δc (.Assign [.Name x pos'] e pos) (tAsg te (gName i)) (gSet i g) := ⟨ps_set hN hi hx h.pe hs hf, h.hK, s_setO hn h.se hct⟩
/-- y = [..] on one line, y a local -/
theorem z_setLc (i : Nat) {y : Str} {py : Pos} {n : Nat} {scope : Scope} (own : List (Str × Nat)) {wi : TI} {gg : TG} {sl : List Nat} {hh : Dt → List Dt → O (List Dt)} {TK : Bool → List Kd → List Kd} {bb : Bool} (hN : X.N.Nodup) (hi : ID X K W Δ tg iter wi bb fr gI) (ok : blkC X.N X.env.scope scope own = true)
    (hg : ∀ (s : Shared) (H : Hp) (C : Addr) (cl : List (Str × Addr)) (fp : List Addr), GD (X.blk s H scope (compEnvC scope cl C X.env) fp) K n tg gg sl hh TK)
    (ht : ∀ (s : Shared) (H : Hp) (C : Addr) (cl : List (Str × Addr)) (fp : List Addr), TsD (X.blk s H scope (compEnvC scope cl C X.env) fp) K (TK fr (wipeK Δ (own.map (·.2)))) ifs tt gt)
    (he : ∀ (s : Shared) (H : Hp) (C : Addr) (cl : List (Str × Addr)) (fp : List Addr), PD (X.blk s H scope (compEnvC scope cl C X.env) fp) K W0 (TK fr (wipeK Δ (own.map (·.2)))) elt te (.v true fr') ge)
    (hsw : swapsWith (.ListComp elt [⟨tg, iter, ifs, 0⟩] scope pos) (some (.Name y py)) pos'.line X.env = pure true) (hin : i < Δ.length := by decide) (hy : X.N[i]? = some y := by rfl) (hyl : X.env.scope.names.lookup y = some .local := by rfl)
    (hn : Δ.length = n := by rfl) (hsl : ∀ i ∈ sl, i ∈ own.map (·.2) := by decide) (no : noOwn Δ (own.map (·.2)) = true := by rfl) (hc : X.calm = true := by rfl) (hs : ∀ x, foldedSetIterable iter X.env x = pure x := by intro _; rfl) :
    SD X K W L Δ (Δ.set i (.own .l fr')) Δb Δc (.Assign [.Name y py] (.ListComp elt [⟨tg, iter, ifs, 0⟩] scope pos) pos') (tAsg (tLc wi gg tt te (own.map (·.2))) (gName i)) (gSet i (gLc gI hh gt ge)) :=
  ⟨ps_setLc hc hN hy hyl hsw hi.pi (blkOk_by ok) (fun s H C cl fp => (hg s H C cl fp).pg) (fun s H C cl fp => (ht s H C cl fp).pts) (fun s H C cl fp => (he s H C cl fp).pe) hs, hi.hK,
    s_setO hin (se_lc hi.si (hg X.s_0 X.H_0 0 [] []).gj hn hsl no (ht X.s_0 X.H_0 0 [] []).st (he X.s_0 X.H_0 0 [] []).se)⟩
theorem z_asg {n : Nat} {gg : TG} {sl : List Nat} {hh : Dt → List Dt → O (List Dt)} {TK : Bool → List Kd → List Kd} (h : PD X K W Δ e te (.v true fr) g) (hg : GD X K n tg gg sl hh TK) (hn : Δ.length = n := by rfl) (hs : swapsWithSole [tg] e pos.line X.env = pure false := by rfl) (hw : swappedStores [tg] e X.env = pure none := by rfl)
    (h1 : (assignEach [tg] X.env).map (·.2) = [assign tg X.env] := by rfl) : SD X K W L Δ (TK fr Δ) Δb Δc (.Assign [tg] e pos) (tAsg te gg) (gAsg g hh) := ⟨ps_asg h.pe hg.pg hs hw h1, h.hK, s_asg hn h.se hg.gj⟩
theorem z_par (i j : Nat) {x y : Str} {px py pt : Pos} {kt k2 : Nat} {pt2 : Pos} (hN : X.N.Nodup) (h : AD X K W Δ [a, b] tA true fr gA) (hij : i ≠ j := by decide) (hni : i < Δ.length := by decide) (hnj : j < Δ.length := by decide) (hi : X.N[i]? = some x := by rfl) (hj : X.N[j]? = some y := by rfl) (hx : X.env.scope.names.lookup x = some .local := by rfl) (hy : X.env.scope.names.lookup y = some .local := by rfl)
    (hw : swappedStores [.Tuple [.Name x px, .Name y py] kt pt] (.Tuple [a, b] k2 pt2) X.env = pure (some [x, y]) := by rfl) (hc : X.calm = true := by rfl) (hs : swapsWithSole [.Tuple [.Name x px, .Name y py] kt pt] (.Tuple [a, b] k2 pt2) pos.line X.env = pure false := by rfl) :
    SD X K W L Δ ((Δ.set i (.im fr)).set j (.im fr)) Δb Δc (.Assign [.Tuple [.Name x px, .Name y py] kt pt] (.Tuple [a, b] k2 pt2) pos) (tPar i j tA) (gPar i j gA) := ⟨ps_par hc hN hi hj hij hx hy h.pa hw hs, h.hK, s_par hni hnj h.sa⟩
theorem z_augA (i : Nat) {x : Str} (hN : X.N.Nodup) (h : PD X K W Δ e te (.v av' fr') g) (hk : Δ[i]? = some (.im fr) := by rfl) (hi : X.N[i]? = some x := by rfl) (hx : Loc X.env.scope x := by first | exact .inl rfl | exact .inr rfl) (hf : X.fn x = true ∨ X.env.scope.names.lookup x = some .local := by first | exact .inl rfl | exact .inr rfl) :
    SD X K W L Δ (Δ.set i (.im true)) Δb Δc (.AugAssign (.Name x pos') .Add e pos) (tAug i te (ipI fun i j => i + j)) (gAug (fun i j => i + j) i g) := ⟨ps_aug hN hi hx h.pe ip_add hf, h.hK, s_aug hk h.se⟩
theorem z_augS (i : Nat) {x : Str} (hN : X.N.Nodup) (h : PD X K W Δ e te (.v av' fr') g) (hk : Δ[i]? = some (.im fr) := by rfl) (hi : X.N[i]? = some x := by rfl) (hx : Loc X.env.scope x := by first | exact .inl rfl | exact .inr rfl) (hf : X.fn x = true ∨ X.env.scope.names.lookup x = some .local := by first | exact .inl rfl | exact .inr rfl) :
    SD X K W L Δ (Δ.set i (.im true)) Δb Δc (.AugAssign (.Name x pos') .Sub e pos) (tAug i te (ipI fun i j => i - j)) (gAug (fun i j => i - j) i g) := ⟨ps_aug hN hi hx h.pe ip_sub hf, h.hK, s_aug hk h.se⟩
theorem z_app (i : Nat) {x : Str} {p p1 p2 : Pos} (h : PD X K W Δ e te (.v true fr') g) (hk : Δ[i]? = some (.own .l fr) := by rfl) (hv : Vis X.env.scope x := by first | exact Or.inl rfl | exact Or.inr (Or.inl rfl) | exact Or.inr (Or.inr rfl)) (hN : X.N[i]? = some x := by rfl) (hd : (x == ("__debug__" : Str)) = false := by decide) (hcd : (x == ("__classdict__" : Str)) = false := by decide)
    (hbase : attributeBase (.Name x p) "append" X.env (eval (.Name x p) X.env) = eval (.Name x p) X.env := by rfl)
    (hfew : ((backTo p2 (starEach [e] X.env)).all (fun x => !x.1) && (backToKw p2 (keywordEach [] X.env)).all (fun x => x.1.isSome)
      && decide ([e].length + ([] : List Keyword).length + (if ([] : List Keyword).isEmpty then 0 else 1) < 30)) = true := by rfl)
    (hline : (p1.endLine == p2.line) = true := by rfl) (hst : starEach [e] X.env = (false, eval e X.env) :: starEach [] X.env := by rfl) (hplain : (backTo p2 (starEach [] X.env)).any (·.1) = false := by rfl)
    (hs : swapsWith (.Call (.Attribute (.Name x p) "append" p1) [e] [] p2) none pos.line X.env = pure false := by rfl) :
    SD X K W L Δ (Δ.set i (.own .l (fr && fr'))) Δb Δc (.Expr (.Call (.Attribute (.Name x p) "append" p1) [e] [] p2) pos) (tDrop (tBM K "list" rAppend (tVar i) (tCons te tNil))) (gApp i g) :=
  ⟨by have q := ps_expr (pos := pos) (pe_bm PySem.F.plainAttrs_list PySem.F.slot_list_append PySem.F.type_list_append mt_append (pe_var hN hv hd hcd) (pa_cons h.pe pa_nil hst) hbase hfew hline hst hplain) hs; rw [h.hK] at q; exact q, h.hK, s_app hk h.se⟩
theorem z_ext (i : Nat) {x : Str} {p p1 p2 : Pos} (h : PD X K W Δ e te (.new .l fr') g) (hk : Δ[i]? = some (.own .l fr) := by rfl) (hv : Vis X.env.scope x := by first | exact Or.inl rfl | exact Or.inr (Or.inl rfl) | exact Or.inr (Or.inr rfl)) (hN : X.N[i]? = some x := by rfl) (hd : (x == ("__debug__" : Str)) = false := by decide) (hcd : (x == ("__classdict__" : Str)) = false := by decide)
    (hbase : attributeBase (.Name x p) "extend" X.env (eval (.Name x p) X.env) = eval (.Name x p) X.env := by rfl)
    (hfew : ((backTo p2 (starEach [e] X.env)).all (fun x => !x.1) && (backToKw p2 (keywordEach [] X.env)).all (fun x => x.1.isSome)
      && decide ([e].length + ([] : List Keyword).length + (if ([] : List Keyword).isEmpty then 0 else 1) < 30)) = true := by rfl)
    (hline : (p1.endLine == p2.line) = true := by rfl) (hst : starEach [e] X.env = (false, eval e X.env) :: starEach [] X.env := by rfl) (hplain : (backTo p2 (starEach [] X.env)).any (·.1) = false := by rfl)
    (hs : swapsWith (.Call (.Attribute (.Name x p) "extend" p1) [e] [] p2) none pos.line X.env = pure false := by rfl) :
    SD X K W L Δ (Δ.set i (.own .l (fr && fr'))) Δb Δc (.Expr (.Call (.Attribute (.Name x p) "extend" p1) [e] [] p2) pos) (tDrop (tBM K "list" rExtend (tVar i) (tCons te tNil))) (gExt i g) :=
  ⟨by have q := ps_expr (pos := pos) (pe_bm PySem.F.plainAttrs_list PySem.F.slot_list_extend PySem.F.type_list_extend mt_extend (pe_var hN hv hd hcd) (pa_cons h.pe pa_nil hst) hbase hfew hline hst hplain) hs; rw [h.hK] at q; exact q, h.hK, s_ext hk h.se⟩
theorem z_setI (i : Nat) {x : Str} {p : Pos} {ix : Expr} {sp : Pos} (h : PD X K W Δ e te (.v true fr') ge) (h2 : PD X K W Δ ix ti (.v av av') gi) (hk : Δ[i]? = some (.own .l fr) := by rfl) (hv : Vis X.env.scope x := by first | exact Or.inl rfl | exact Or.inr (Or.inl rfl) | exact Or.inr (Or.inr rfl)) (hN : X.N[i]? = some x := by rfl) (hd : (x == ("__debug__" : Str)) = false := by decide) (hcd : (x == ("__classdict__" : Str)) = false := by decide)
    (ha : ∀ v, assign (.Subscript (.Name x p) ix sp) X.env v = (do
      let ov ← holding [v] (eval (.Name x p) X.env)
      let iv ← holding [v, ov] (eval ix X.env)
      standAt sp
      holding [v, ov, iv] (setItem ov iv v)
      release [v, ov, iv] []) := by intro _; rfl) (hs : swapsWithSole [.Subscript (.Name x p) ix sp] e pos.line X.env = pure false := by rfl) (hw : swappedStores [.Subscript (.Name x p) ix sp] e X.env = pure none := by rfl)
    (h1 : (assignEach [.Subscript (.Name x p) ix sp] X.env).map (·.2) = [assign (.Subscript (.Name x p) ix sp) X.env] := by rfl) :
    SD X K W L Δ (Δ.set i (.own .l (fr && fr'))) Δb Δc (.Assign [.Subscript (.Name x p) ix sp] e pos) (tAsg te (gSub (tVar i) ti rSetL)) (gSetI i ge gi) := ⟨ps_asg h.pe (pg_sub (pe_var hN hv hd hcd) h2.pe set_list ha) hs hw h1, h.hK, s_setI hk h.se h2.se⟩
theorem z_if (h : TD X K W Δ c tt gt) (h1 : BD X K W L Δ Δn Δb Δc sts t g1) (h2 : BD X K W L Δ Δn Δb Δc sts2 u g2) : SD X K W L Δ Δn Δb Δc (.If c sts sts2 pos) (tIfS tt t u) (gIfS gt g1 g2) := ⟨ps_if h.pt h1.ps h2.ps, h.hK, s_if h.st h1.ss h2.ss⟩
theorem z_pass (hK : X.K = K := by rfl) : SD X K W L Δ Δ Δb Δc (.Pass pos) tNext gNext := ⟨ps_pass, hK, s_next⟩
theorem z_while (n : Nat) (hp : PassesOwn (model X.prog X.w) X.A X.env X.xe) (h : TD X K W Δ c tt gt) (hb : BD X K W L Δ Δ Δ Δ sts t g1) : SD X K W L Δ Δ Δb Δc (.While c sts [] pos) (tWhile tt t) (gWhile gt g1 n) := ⟨ps_while hp h.pt hb.ps, h.hK, s_while n h.st hb.ss⟩
theorem z_for {n : Nat} {wi : TI} {gg : TG} {sl : List Nat} {hh : Dt → List Dt → O (List Dt)} {TK : Bool → List Kd → List Kd} (hp : PassesOwn (model X.prog X.w) X.A X.env X.xe) (hi : ID X K W Δ tg iter wi false fr gI) (hg : GD X K n tg gg sl hh TK) (hb : BD X K W L (TK fr Δ) Δ Δ Δ sts t g1) (hn : Δ.length = n := by rfl) (hc : X.calm = true := by rfl)
    (hs : ∀ x, foldedSetIterable iter X.env x = pure x := by intro _; rfl) : SD X K W L Δ Δ Δb Δc (.For tg iter sts [] pos) (tFor wi gg t) (gFor gI hh g1) := ⟨ps_for hp hc hi.pi hg.pg hb.ps hs, hi.hK, s_for hn hi.si hg.gj hb.ss⟩
end

/-! ### defs -/
def fnN (m : Nat) (g : Gs) : List Dt → O Dt := fun ds => match g (ds ++ List.replicate (m - ds.length) .none) with
  | .ok (.rt d) => .ok d
  | .ok (.nx _) => .ok .none
  | _ => .bad
def fnL (m : Nat) (g : Gs) : List Dt → O Dt := fun ds => match g (ds ++ List.replicate (m - ds.length) .none) with
  | .ok (.rt d) => .ok d
  | _ => .bad
def kd0 (n m : Nat) (fr : Bool) : List Kd := List.replicate n (.im fr) ++ List.replicate (m - n) .no
theorem r_start {K : PySem.W.Frag} {H : Hp} {F G : Addr → Prop} {vs : List V} {ds : List Dt} {n m : Nat} {fr : Bool} {N : List Str} (hv : vs.length = n) (hN : N.length = m) (hm : n ≤ m) (x : RpA K F H vs ds) (hg : ∀ a, H a = none → G a) (hF : fr = true → ∀ a, F a → G a) :
    R K ⟨H, G, [], [], none⟩ (kd0 n m fr) (ds ++ List.replicate (m - ds.length) .none) (L2.start N vs) H := by
  have hd : ds.length = n := by rw [← x.length]; exact hv
  have noOw : ∀ (i : Nat) (c : Ct) (fr' : Bool), (kd0 n m fr)[i]? ≠ some (.own c fr') := fun i c fr' e => by
    unfold kd0 at e
    have := List.mem_of_getElem? e
    rcases List.mem_append.mp this with h | h
    · cases List.eq_of_mem_replicate h
    · cases List.eq_of_mem_replicate h
  refine ⟨Same.refl H, hg, ?_, ?_, fun i j ci fi cj fj p h1 => absurd h1 (noOw i ci fi), fun a ha => absurd ha (by simp), fun g hg => absurd hg (by simp), fun i fr' h => ?_, fun i c fr' h => absurd h (noOw i c fr'), fun i c fr' h => absurd h (noOw i c fr')⟩
  · unfold L2.start kd0
    rw [List.length_append, List.length_append, List.length_map, List.length_replicate, List.length_replicate, List.length_replicate, hv, hN]
  · unfold kd0
    rw [List.length_append, List.length_append, List.length_replicate, List.length_replicate, List.length_replicate, hd]
  · unfold kd0 at h
    by_cases hi : i < n
    · rw [List.getElem?_append_left (by rw [List.length_replicate]; exact hi)] at h
      have efr : fr' = fr := by
        have := List.eq_of_mem_replicate (List.mem_of_getElem? h)
        cases this; rfl
      subst efr
      have hi' : i < vs.length := by rw [hv]; exact hi
      obtain ⟨d, h1, h2⟩ := x.get (List.getElem?_eq_getElem hi')
      refine ⟨vs[i], d, ?_, ?_, h2.weak fun a fa => ⟨fun _ => ⟨fun z => ?_, by simp⟩, fun e => hF e a fa⟩⟩
      · unfold L2.start
        rw [List.getElem?_append_left (by rw [List.length_map]; exact hi'), List.getElem?_map, List.getElem?_eq_getElem hi']
        rfl
      · rw [List.getElem?_append_left (by rw [hd]; exact hi)]
        exact h1
      · obtain ⟨j, c, frj, g1, _⟩ := z
        exact noOw j c frj g1
    · rw [List.getElem?_append_right (by rw [List.length_replicate]; omega)] at h
      cases List.eq_of_mem_replicate (List.mem_of_getElem? h)
section
variable {P : Program} {w : World} {K : PySem.W.Frag} {mg : Str → Option Value} {base : Heap} {x qual : Str} {st : Stmt} {fa : Addr} {fd : FuncData} {N ps : List Str} {k n m : Nat} {Δn : List Kd} {g : Gs}
theorem fn_okN (F : L2.Fun K x qual st fa fd) (S : FnScope N ps (defScope st)) (hn : ps.length = n) (hm : N.length = m) (hnm : n ≤ m)
    (hb : ∀ (cdv : Value) (A : Around) (outer : List Env) (s : Shared) (H : Hp) (E : XK), Room k (A.deeper (envOfC qual (defScope st) s.heap.objs.size fa cdv)) → ∃ ts, BD (cxOf CX0 P w K mg base N qual (defScope st) fa cdv A outer s H E).nox K W0 .n (kd0 n m false) Δn (kd0 n m false) (kd0 n m false) (defBody st) ts g) :
    FnOk P w K mg base CX0 (k + 1) fa fd ps (spG K mg n (fnN m g)) := by
  refine F.ok S (fun vs H Q E h => ?_) (fun cdv A outer s H vs Q E hr h => ?_)
  · obtain ⟨ds, h1, _⟩ := h
    rw [h1, hn]
  · obtain ⟨ds, h1, h2, h3⟩ := h
    obtain ⟨ts, B⟩ := hb cdv A outer s H E hr
    refine ⟨ts, B.ps, B.ss ⟨H, fun a => H a = none, [], [], none⟩ _ _ H _ (r_start h1 hm hnm h2 (fun _ h => h) (fun e => nomatch e)) ?_⟩
    unfold fnN at h3
    cases e : g (ds ++ List.replicate (m - ds.length) .none) with
    | bad => rw [e] at h3; exact h3.elim
    | ex z => rw [e] at h3; exact h3.elim
    | ok fl =>
      rw [e] at h3
      cases fl with
      | nx ρ => exact fun σ' H' r => h3 .non H' r.ext .non
      | rt d => exact fun v H' s x => h3 v H' s x
      | bk ρ => exact h3.elim
      | ct ρ => exact h3.elim
theorem fn_okL (F : L2.Fun K x qual st fa fd) (S : FnScope N ps (defScope st)) (hn : ps.length = n) (hm : N.length = m) (hnm : n ≤ m)
    (hb : ∀ (cdv : Value) (A : Around) (outer : List Env) (s : Shared) (H : Hp) (E : XK), Room k (A.deeper (envOfC qual (defScope st) s.heap.objs.size fa cdv)) → ∃ ts, BD (cxOf CX0 P w K mg base N qual (defScope st) fa cdv A outer s H E).nox K W0 .l (kd0 n m false) Δn (kd0 n m false) (kd0 n m false) (defBody st) ts g) :
    FnOk P w K mg base CX0 (k + 1) fa fd ps (spL K mg n (fnL m g)) := by
  refine F.ok S (fun vs H Q E h => ?_) (fun cdv A outer s H vs Q E hr h => ?_)
  · obtain ⟨ds, h1, _⟩ := h
    rw [h1, hn]
  · obtain ⟨ds, h1, h2, h3⟩ := h
    obtain ⟨ts, B⟩ := hb cdv A outer s H E hr
    refine ⟨ts, B.ps, B.ss ⟨H, fun a => H a = none, [], [], none⟩ _ _ H _ (r_start h1 hm hnm h2 (fun _ h => h) (fun e => nomatch e)) ?_⟩
    unfold fnL at h3
    cases e : g (ds ++ List.replicate (m - ds.length) .none) with
    | bad => rw [e] at h3; exact h3.elim
    | ex z => rw [e] at h3; exact h3.elim
    | ok fl =>
      rw [e] at h3
      cases fl with
      | nx ρ => exact h3.elim
      | rt d => exact fun p H' np s x => h3 p H' np s x
      | bk ρ => exact h3.elim
      | ct ρ => exact h3.elim
theorem fn_okA (F : L2.Fun K x qual st fa fd) (S : FnScope N ps (defScope st)) (hn : ps.length = n) (hm : N.length = m) (hnm : n ≤ m)
    (hb : ∀ (cdv : Value) (A : Around) (outer : List Env) (s : Shared) (H : Hp) (E : XK), Room k (A.deeper (envOfC qual (defScope st) s.heap.objs.size fa cdv)) → ∃ ts, BD (cxOf CX0 P w K mg base N qual (defScope st) fa cdv A outer s H E).nox K W0 .n (kd0 n m true) Δn (kd0 n m true) (kd0 n m true) (defBody st) ts g) :
    FnOk P w K mg base CX0 (k + 1) fa fd ps (spA K mg n (fnN m g)) := by
  refine F.ok S (fun vs H Q E h => ?_) (fun cdv A outer s H vs Q E hr h => ?_)
  · obtain ⟨ds, F, h1, _⟩ := h
    rw [h1, hn]
  · obtain ⟨ds, F, h1, h2, h3⟩ := h
    obtain ⟨ts, B⟩ := hb cdv A outer s H E hr
    refine ⟨ts, B.ps, B.ss ⟨H, fun a => F a ∨ H a = none, [], [], none⟩ _ _ H _ (r_start h1 hm hnm h2 (fun _ h => .inr h) (fun _ a h => .inl h)) ?_⟩
    unfold fnN at h3
    cases e : g (ds ++ List.replicate (m - ds.length) .none) with
    | bad => rw [e] at h3; exact h3.elim
    | ex z => rw [e] at h3; exact h3.elim
    | ok fl =>
      rw [e] at h3
      cases fl with
      | nx ρ => exact fun σ' H' r => h3 .non H' r.ext .non
      | rt d => exact fun v H' s x => h3 v H' s x
      | bk ρ => exact h3.elim
      | ct ρ => exact h3.elim
end
end Sim
end T_SimG

section T_SimH
set_option Elab.async false
set_option linter.all false
set_option maxRecDepth 100000
/-! SimH: comparisons as values and tests, chains; kinds said outright. -/
namespace Sim
open PySem PySem.Spec L2
open PyProof.Rows hiding St

structure OR (X : Cx) (K : PySem.W.Frag) (op : CmpOp) (r : R2) (h : Dt → Dt → O Dt) : Prop where
  ho : OpR X (compareOp op) r
  scl : Scl2 h
  osc : OSc K r h
section
variable {X : Cx} {K : PySem.W.Frag} {W : Wt} {n : Nat}
theorem or_lt : OR X K .Lt (rI0 fun i j => .bl (decide (i < j))) hLt := ⟨op_lt, scl_B0, osc_B0⟩
theorem or_le : OR X K .LtE (rI0 fun i j => .bl (decide (i ≤ j))) hLe := ⟨op_le, scl_B0, osc_B0⟩
theorem or_gt : OR X K .Gt (rI0 fun i j => .bl (decide (j < i))) hGt := ⟨op_gt, scl_B0, osc_B0⟩
theorem or_ge : OR X K .GtE (rI0 fun i j => .bl (decide (j ≤ i))) hGe := ⟨op_ge, scl_B0, osc_B0⟩
theorem or_eq (hr : Room n X.A) (hK : X.K = K := by rfl) : OR X K .Eq (rEqD K) hEq := ⟨by have q := op_eqD (X := X) (by have := hr.un; omega); rw [hK] at q; exact q, scl_eq, osc_eq⟩
theorem or_ne (hr : Room n X.A) (hK : X.K = K := by rfl) : OR X K .NotEq (rNeD K) hNe := ⟨by have q := op_neD (X := X) (by have := hr.un; omega); rw [hK] at q; exact q, scl_ne, osc_ne⟩
theorem or_in (hr : Room n X.A) (hK : X.K = K := by rfl) : OR X K .In (rInDT K false) hIn := ⟨by have q := op_inDT (X := X) (by have := hr.un; omega); rw [hK] at q; exact q, scl_in, osc_in⟩
theorem or_notIn (hr : Room n X.A) (hK : X.K = K := by rfl) : OR X K .NotIn (rInDT K true) hNotIn := ⟨by have q := op_notInDT (X := X) (by have := hr.un; omega); rw [hK] at q; exact q, scl_notIn, osc_notIn⟩
theorem or_isN : OR X K .Is (fun x y H Q => y = .non ∧ Q (.bl (decide (x = .non))) H) hIs := ⟨op_isN, scl_is, osc_is⟩
theorem or_notN : OR X K .IsNot (fun x y H Q => y = .non ∧ Q (.bl (!decide (x = .non))) H) hIsNot := ⟨op_notN, scl_isNot, osc_isNot⟩
end
def gChain (h h' : Dt → Dt → O Dt) (ga gb gc : Gd) : Gd := fun ρ => bnd (ga ρ) fun x => bnd (gb ρ) fun y => bnd (h x y) fun z => bnd (asB z) fun c => if c then bnd (gc ρ) fun w => h' y w else .ok (.bool false)
section
variable {K : PySem.W.Frag} {W : Wt} {Δ : List Kd} {ta tb tc : TE} {ga gb gc : Gd} {av fr av' fr' av2 fr2 : Bool}
theorem se_chain {r r' : R2} {h h' : Dt → Dt → O Dt} (hs : Scl2 h) (ho : OSc K r h) (hs' : Scl2 h') (ho' : OSc K r' h') (ha : SE K W Δ ta (.v av fr) ga) (hb : SE K W Δ tb (.v av' fr') gb) (hc : SE K W Δ tc (.v av2 fr2) gc) :
    SE K W Δ (tChain r r' ta tb tc) (.v true true) (gChain h h' ga gb gc) := fun f ρ σ H Q R q => by
  refine ha f ρ σ H _ R ?_
  unfold gChain at q
  cases e1 : ga ρ with
  | bad => rw [e1] at q; exact q
  | ex z => rw [e1] at q; exact q
  | ok d =>
    rw [e1, bnd_ok] at q
    intro v H1 s1 x1
    refine hb f ρ σ H1 _ (R.mono s1) ?_
    cases e2 : gb ρ with
    | bad => rw [e2] at q; exact q
    | ex z => rw [e2] at q; exact fun H' s => q H' (s1.trans s)
    | ok d2 =>
      rw [e2, bnd_ok] at q
      intro v2 H2 s2 x2
      refine ho H2 v v2 d d2 _ ((x1.same s2).weak fun _ _ => trivial) (x2.weak fun _ _ => trivial) ?_
      rcases hs d d2 with ⟨z, ez, sz⟩ | ez
      · rw [ez] at q ⊢
        rw [bnd_ok] at q
        refine ⟨sz, fun w x => ?_⟩
        cases x with
        | bl c =>
          refine ⟨c, rfl, ?_⟩
          cases c with
          | false =>
            show (if false = true then _ else _)
            rw [if_neg Bool.false_ne_true]
            exact q _ H2 (s1.trans s2) (.bl false)
          | true =>
            show (if true = true then _ else _)
            rw [if_pos rfl]
            have q : PoE K W f Δ σ H (.v true true) (bnd (gc ρ) fun w => h' d2 w) Q := q
            refine hc f ρ σ H2 _ ((R.mono s1).mono s2) ?_
            cases e3 : gc ρ with
            | bad => rw [e3] at q; exact q
            | ex z => rw [e3] at q; exact fun H' s => q H' ((s1.trans s2).trans s)
            | ok d3 =>
              rw [e3, bnd_ok] at q
              intro v3 H3 s3 x3
              refine ho' H3 v2 v3 d2 d3 Q ((x2.same s3).weak fun _ _ => trivial) (x3.weak fun _ _ => trivial) ?_
              rcases hs' d2 d3 with ⟨z, ez, sz⟩ | ez
              · rw [ez] at q ⊢
                exact ⟨sz, fun w x => q w H3 ((s1.trans s2).trans s3) (x.scl_any sz)⟩
              · rw [ez] at q
                exact q.elim
        | non => exact q.elim
        | int => exact q.elim
        | str => exact q.elim
        | lst => cases sz
        | fz => cases sz
        | tup => cases sz
        | dic => cases sz
        | exn => cases sz
      · rw [ez] at q
        exact q.elim
end
section
variable {X : Cx} {K : PySem.W.Frag} {W : Wt} {Δ Δ1 Δn Δb Δc : List Kd} {a b c e : Expr} {es : List Expr} {ta tb tc te : TE} {tA : TA} {ga gb gc g : Gd} {av fr av' fr' av2 fr2 : Bool} {L : Lk} {pos : Pos} {op op' : CmpOp} {r r' : R2} {h h' : Dt → Dt → O Dt} {t : TS} {g1 : Gs} {st : Stmt} {sts : List Stmt}
theorem x_cmp (o : OR X K op r h) (ha : PD X K W Δ a ta (.v av fr) ga) (hb : PD X K W Δ b tb (.v av' fr') gb) (hm : behindInMarks op b = false := by first | exact nobehind _ (by decide) (by decide) | rfl) : PD X K W Δ (.Compare a [op] [b] pos) (tOp r ta tb) (.v true true) (gOp h ga gb) := ⟨pe_cmpR o.ho ha.pe hb.pe hm, ha.hK, se_op o.scl o.osc ha.se hb.se⟩
theorem c_cmp (o : OR X K op r h) (ha : PD X K W Δ a ta (.v av fr) ga) (hb : PD X K W Δ b tb (.v av' fr') gb) (hm : behindInMarks op b = false := by first | exact nobehind _ (by decide) (by decide) | rfl) : TD X K W Δ (.Compare a [op] [b] pos) (tTest (tOp r ta tb)) (gTest (gOp h ga gb)) := ⟨pt_cmpR o.ho ha.pe hb.pe hm, ha.hK, st_test (se_op o.scl o.osc ha.se hb.se)⟩
theorem x_chain (o : OR X K op r h) (o' : OR X K op' r' h') (ha : PD X K W Δ a ta (.v av fr) ga) (hb : PD X K W Δ b tb (.v av' fr') gb) (hc : PD X K W Δ c tc (.v av2 fr2) gc) (hm : lastMarks [op, op'] [b, c] = false := by with_unfolding_all rfl) : PD X K W Δ (.Compare a [op, op'] [b, c] pos) (tChain r r' ta tb tc) (.v true true) (gChain h h' ga gb gc) :=
  ⟨pe_chain o.ho o'.ho ha.pe hb.pe hc.pe hm, ha.hK, se_chain o.scl o.osc o'.scl o'.osc ha.se hb.se hc.se⟩
theorem c_chain (o : OR X K op r h) (o' : OR X K op' r' h') (ha : PD X K W Δ a ta (.v av fr) ga) (hb : PD X K W Δ b tb (.v av' fr') gb) (hc : PD X K W Δ c tc (.v av2 fr2) gc) (hm : lastMarks [op, op'] [b, c] = false := by with_unfolding_all rfl) : TD X K W Δ (.Compare a [op, op'] [b, c] pos) (tTest (tChain r r' ta tb tc)) (gTest (gChain h h' ga gb gc)) :=
  ⟨pt_chain o.ho o'.ho ha.pe hb.pe hc.pe hm, ha.hK, st_test (se_chain o.scl o.osc o'.scl o'.osc ha.se hb.se hc.se)⟩

theorem SD.to (Δn' : List Kd) (h : SD X K W L Δ Δn Δb Δc st t g1) (l : leA Δn Δn' = true := by rfl) : SD X K W L Δ Δn' Δb Δc st t g1 := ⟨h.ps, h.hK, fun f ρ σ H E r q => h.ss f ρ σ H E r <| by
  cases e : g1 ρ with
  | bad => rw [e] at q; exact q
  | ex z => rw [e] at q; exact q
  | ok fl =>
    rw [e] at q
    cases fl with
    | nx ρ' => exact fun σ' H' r => q σ' H' (r.weak l)
    | rt d => exact q
    | bk ρ' => exact q
    | ct ρ' => exact q⟩
theorem SD.frm (Δ0 : List Kd) (h : SD X K W L Δ0 Δn Δb Δc st t g1) (l : leA Δ Δ0 = true := by rfl) : SD X K W L Δ Δn Δb Δc st t g1 := ⟨h.ps, h.hK, h.ss.pre l⟩
theorem BD.to (Δn' : List Kd) (h : BD X K W L Δ Δn Δb Δc sts t g1) (l : leA Δn Δn' = true := by rfl) : BD X K W L Δ Δn' Δb Δc sts t g1 := ⟨h.ps, h.hK, fun f ρ σ H E r q => h.ss f ρ σ H E r <| by
  cases e : g1 ρ with
  | bad => rw [e] at q; exact q
  | ex z => rw [e] at q; exact q
  | ok fl =>
    rw [e] at q
    cases fl with
    | nx ρ' => exact fun σ' H' r => q σ' H' (r.weak l)
    | rt d => exact q
    | bk ρ' => exact q
    | ct ρ' => exact q⟩
theorem BD.frm (Δ0 : List Kd) (h : BD X K W L Δ0 Δn Δb Δc sts t g1) (l : leA Δ Δ0 = true := by rfl) : BD X K W L Δ Δn Δb Δc sts t g1 := ⟨h.ps, h.hK, h.ss.pre l⟩
def gBrk : Gs := fun ρ => .ok (.bk ρ)
def gCnt : Gs := fun ρ => .ok (.ct ρ)
theorem z_brk (hK : X.K = K := by rfl) : SD X K W L Δ Δn Δ Δc (.Break pos) tBreak gBrk := ⟨ps_break, hK, s_brk⟩
theorem z_cont (hK : X.K = K := by rfl) : SD X K W L Δ Δn Δb Δ (.Continue pos) tCont gCnt := ⟨ps_continue, hK, s_cont⟩
end
section
variable {X : Cx} {K : PySem.W.Frag} {W : Wt} {Δ : List Kd} {e : Expr} {te : TE} {g : Gd} {c : Ct} {fr fr' : Bool}
theorem SE.wkN (h : SE K W Δ te (.new c fr) g) (h2 : fr' = true → fr = true) : SE K W Δ te (.new c fr') g := fun f ρ σ H Q r q =>
  h f ρ σ H Q r <| by
    cases e : g ρ with
    | bad => rw [e] at q; exact q
    | ex z => rw [e] at q; exact q
    | ok d => rw [e] at q; exact fun p H' np s x => q p H' np s (x.map (fun _ e => e) fun _ _ y => y.weak fun a fa => ⟨fa.1.weak id h2, fa.2⟩)
theorem PD.wkN (fr' : Bool) (h : PD X K W Δ e te (.new c fr) g) (h2 : fr' = true → fr = true := by decide) : PD X K W Δ e te (.new c fr') g := ⟨h.pe, h.hK, SE.wkN h.se h2⟩
theorem AD.to {es : List Expr} {tA : TA} {av fr : Bool} {gA : List Dt → O (List Dt)} (av' fr' : Bool) (h : AD X K W Δ es tA av fr gA) (h1 : av' = true → av = true := by decide) (h2 : fr' = true → fr = true := by decide) : AD X K W Δ es tA av' fr' gA := h.wk h1 h2
theorem blk_fx {N : List Str} {sc scope : Scope} {own : List (Str × Nat)} (h : blkC N sc scope own = true) (e1 : X.N = N := by rfl) (e2 : X.env.scope = sc := by rfl) : blkC X.N X.env.scope scope own = true := by
  rw [e1, e2]
  exact h
end
/-! ### a law's end: what it gives does not hang on the names -/
def spLaw (K : PySem.W.Frag) (g : List Dt → O Dt) : Sp := fun vs H Q _ => ∃ ds, vs.length = 1 ∧ RpA K (fun _ => True) H vs ds ∧ g ds = .ok (.bool true) ∧ ∀ H', Q (.bl true) H'
theorem spLaw_of {K : PySem.W.Frag} {H : Hp} {a : Addr} {ns : List Int} {g : List Dt → O Dt} (hS : SqL K H a (ns.map V.int)) (h : g [.list (ns.map .int)] = .ok (.bool true)) : spLaw K g [.ref a] H (fun v _ => v = .bl true) fun _ _ _ => False := by
  refine ⟨_, rfl, .cons ?_ .nil, h, fun _ => rfl⟩
  rcases hS with (h | ⟨o, h⟩) | h
  · exact .lst h trivial (rpA_ints ns)
  · exact .fz (.inl ⟨o, h⟩) (rpA_ints ns)
  · exact .fz (.inr h) (rpA_ints ns)
theorem okLaw_of {P : Program} {w : World} {K : PySem.W.Frag} {mg : Str → Option Value} {CX : CXT} {k : Nat} {fa : Addr} {g : List Dt → O Dt}
    (h : ∃ fd : FuncData, (∀ (s : Shared) (v : Value), BindsTo s fd ⟨[v], []⟩ [("script", v)]) ∧ ∀ base : Heap, K.In base → base.Ns mainGlobals mg → FnOk P w K mg base CX k fa fd ["script"] (spG K mg 1 g)) :
    ∃ fd : FuncData, (∀ (s : Shared) (v : Value), BindsTo s fd ⟨[v], []⟩ [("script", v)]) ∧ ∀ base : Heap, K.In base → base.Ns mainGlobals mg → FnOk P w K mg base CX k fa fd ["script"] (spLaw K g) := by
  obtain ⟨fd, h1, h2⟩ := h
  have key : ∀ vs H Q E, spLaw K g vs H Q E → spG K mg 1 g vs H Q E := fun vs H Q E ⟨ds, a, b, c, d⟩ => ⟨ds, a, b, by
    rw [c]
    intro v H' s x
    cases x
    exact d H'⟩
  refine ⟨fd, h1, fun base a b => ?_⟩
  obtain ⟨len, run⟩ := h2 base a b
  exact ⟨fun vs H Q E x => len vs H Q E (key vs H Q E x), fun A outer s H args us vs Q E hr e0 hb r x => run A outer s H args us vs Q E hr e0 hb r (key vs H Q E x)⟩
end Sim
end T_SimH

section T_SimP
set_option Elab.async false
set_option linter.all false
set_option maxRecDepth 100000
/-! SimP: plain lemmas about the closures. -/
namespace Sim
open PySem

/-! ### steps -/
theorem gVar_def (i : Nat) (ρ : List Dt) : gVar i ρ = match ρ[i]? with | some d => .ok d | none => .bad := rfl
theorem gC_def (d : Dt) (ρ : List Dt) : gC d ρ = .ok d := rfl
theorem gOp_def (h : Dt → Dt → O Dt) (a b : Gd) (ρ : List Dt) : gOp h a b ρ = bnd (a ρ) fun x => bnd (b ρ) fun y => h x y := rfl
theorem gUn_def (h : Dt → O Dt) (a : Gd) (ρ : List Dt) : gUn h a ρ = bnd (a ρ) h := rfl
theorem gNil_def (ρ : List Dt) : gNil ρ = .ok [] := rfl
theorem gCons_def (a : Gd) (b : List Dt → O (List Dt)) (ρ : List Dt) : gCons a b ρ = bnd (a ρ) fun x => bnd (b ρ) fun xs => .ok (x :: xs) := rfl
theorem gTup_ok {a : List Dt → O (List Dt)} {ρ : List Dt} {xs : List Dt} (h : a ρ = .ok xs) (hl : xs.length ≤ 100000) : gTup a ρ = .ok (.tuple xs) := by unfold gTup; rw [h, bnd_ok, if_pos hl]
theorem gTup_def (a : List Dt → O (List Dt)) (ρ : List Dt) : gTup a ρ = bnd (a ρ) fun xs => if xs.length ≤ 100000 then .ok (.tuple xs) else .bad := rfl
theorem gLst_def (a : List Dt → O (List Dt)) (ρ : List Dt) : gLst a ρ = bnd (a ρ) fun xs => if xs.length ≤ 100000 then .ok (.list xs) else .bad := rfl
theorem gIf_def (t : List Dt → O Bool) (a b : Gd) (ρ : List Dt) : gIf t a b ρ = bnd (t ρ) fun c => if c then a ρ else b ρ := rfl
theorem gTest_def (a : Gd) (ρ : List Dt) : gTest a ρ = bnd (a ρ) asB := rfl
theorem gNot_def (t : List Dt → O Bool) (ρ : List Dt) : gNot t ρ = bnd (t ρ) fun b => .ok (!b) := rfl
theorem gAnd_def (t u : List Dt → O Bool) (ρ : List Dt) : gAnd t u ρ = bnd (t ρ) fun b => if b then u ρ else .ok false := rfl
theorem gOr_def (t u : List Dt → O Bool) (ρ : List Dt) : gOr t u ρ = bnd (t ρ) fun b => if b then .ok true else u ρ := rfl
theorem gAndV_def (a b : Gd) (ρ : List Dt) : gAndV a b ρ = bnd (a ρ) fun x => bnd (asB x) fun c => if c then b ρ else .ok (.bool false) := rfl
theorem gOrV_def (a b : Gd) (ρ : List Dt) : gOrV a b ρ = bnd (a ρ) fun x => bnd (asB x) fun c => if c then .ok (.bool true) else b ρ := rfl
theorem gNotV_def (a : Gd) (ρ : List Dt) : gNotV a ρ = bnd (a ρ) fun x => bnd (asB x) fun c => .ok (.bool (!c)) := rfl
theorem gCB_def (h : List Dt → O Dt) (a : List Dt → O (List Dt)) (ρ : List Dt) : gCB h a ρ = bnd (a ρ) h := rfl
theorem gPur_def (a : Gd) (ρ : List Dt) : gPur a ρ = bnd (a ρ) fun d => if pure1 d then .ok d else .bad := rfl
theorem gPurN_def (a : Gd) (ρ : List Dt) : gPurN a ρ = bnd (a ρ) fun d => if pureIn d then .ok d else .bad := rfl
theorem gPurV_def (i : Nat) (ρ : List Dt) : gPurV i ρ = gPurN (gVar i) ρ := rfl
theorem asB_b (b : Bool) : asB (.bool b) = .ok b := rfl
theorem hAdd_i (i j : Int) : hAdd (.int i) (.int j) = .ok (.int (i + j)) := rfl
theorem hSub_i (i j : Int) : hSub (.int i) (.int j) = .ok (.int (i - j)) := rfl
theorem hLt_i (i j : Int) : hLt (.int i) (.int j) = .ok (.bool (decide (i < j))) := rfl
theorem hLe_i (i j : Int) : hLe (.int i) (.int j) = .ok (.bool (decide (i ≤ j))) := rfl
theorem hGt_i (i j : Int) : hGt (.int i) (.int j) = .ok (.bool (decide (j < i))) := rfl
theorem hGe_i (i j : Int) : hGe (.int i) (.int j) = .ok (.bool (decide (j ≤ i))) := rfl
theorem hBand_i (i j : Int) : hBand (.int i) (.int j) = .ok (.int (Builtin.bitAnd i j)) := rfl
theorem hMul_r {i j : Int} (h1 : -18446744073709551616 < j) (h2 : j < 18446744073709551616) : hMul (.int i) (.int j) = .ok (.int (i * j)) := by
  show (if cMul i j then O.ok (PyData.int (i * j)) else .bad) = _
  rw [if_pos]
  unfold cMul
  rw [Bool.or_eq_true, decide_eq_true_eq, decide_eq_true_eq]
  right; omega
theorem hMul_l {i j : Int} (h1 : -18446744073709551616 < i) (h2 : i < 18446744073709551616) : hMul (.int i) (.int j) = .ok (.int (i * j)) := by
  show (if cMul i j then O.ok (PyData.int (i * j)) else .bad) = _
  rw [if_pos]
  unfold cMul
  rw [Bool.or_eq_true, decide_eq_true_eq, decide_eq_true_eq]
  left; omega
theorem hMod_i {i j : Int} (h : 0 < j) : hMod (.int i) (.int j) = .ok (.int (i % j)) := by
  show (if cMod i j then O.ok (PyData.int (i % j)) else .bad) = _
  rw [if_pos]
  unfold cMod
  exact decide_eq_true h
theorem hDiv_i {i j : Int} (h : 0 < j) (h2 : j.natAbs < 2 ^ 400) : hDiv (.int i) (.int j) = .ok (.int (i / j)) := by
  show (if cDiv i j then O.ok (PyData.int (i / j)) else .bad) = _
  rw [if_pos]
  unfold cDiv
  rw [Bool.and_eq_true]
  exact ⟨decide_eq_true h, decide_eq_true h2⟩
theorem hDiv_s {i j : Int} (h : 0 < j) (h2 : j < 1000000000000000000000000000000000) : hDiv (.int i) (.int j) = .ok (.int (i / j)) := hDiv_i h (by omega)
theorem hShr_i {i j : Int} (h : 0 ≤ j) : hShr (.int i) (.int j) = .ok (.int (i / 2 ^ j.toNat)) := by
  show (if cShr i j then O.ok (PyData.int (i / 2 ^ j.toNat)) else .bad) = _
  rw [if_pos]
  exact decide_eq_true h
theorem hPow_10_18 : hPow (.int 10) (.int 18) = .ok (.int 1000000000000000000) := by
  show (if cPow 10 18 then O.ok (PyData.int ((10 : Int) ^ (18 : Int).toNat)) else .bad) = _
  rw [if_pos (by decide)]
  rfl
theorem hPow_10_27 : hPow (.int 10) (.int 27) = .ok (.int 1000000000000000000000000000) := by
  show (if cPow 10 27 then O.ok (PyData.int ((10 : Int) ^ (27 : Int).toNat)) else .bad) = _
  rw [if_pos (by decide)]
  rfl
theorem hPow_10_28 : hPow (.int 10) (.int 28) = .ok (.int 10000000000000000000000000000) := by
  show (if cPow 10 28 then O.ok (PyData.int ((10 : Int) ^ (28 : Int).toNat)) else .bad) = _
  rw [if_pos (by decide)]
  rfl
theorem hPow_10_29 : hPow (.int 10) (.int 29) = .ok (.int 100000000000000000000000000000) := by
  show (if cPow 10 29 then O.ok (PyData.int ((10 : Int) ^ (29 : Int).toNat)) else .bad) = _
  rw [if_pos (by decide)]
  rfl
theorem hPow_10_30 : hPow (.int 10) (.int 30) = .ok (.int 1000000000000000000000000000000) := by
  show (if cPow 10 30 then O.ok (PyData.int ((10 : Int) ^ (30 : Int).toNat)) else .bad) = _
  rw [if_pos (by decide)]
  rfl
theorem shaped_int (i : Int) : SeqAt.shaped (.int i) = true := by simp [SeqAt.shaped, PyData.canLay0, PyData.depth]
theorem shaped_bool (i : Bool) : SeqAt.shaped (.bool i) = true := by simp [SeqAt.shaped, PyData.canLay0, PyData.depth]
theorem shaped_none : SeqAt.shaped .none = true := by simp [SeqAt.shaped, PyData.canLay0, PyData.depth]
theorem hEq_i (i j : Int) : hEq (.int i) (.int j) = .ok (.bool (i == j)) := by unfold hEq; rw [shaped_int, shaped_int]; simp [PyData.eqv]
theorem hNe_i (i j : Int) : hNe (.int i) (.int j) = .ok (.bool (!(i == j))) := by unfold hNe; rw [shaped_int, shaped_int]; simp [PyData.eqv]
theorem hEq_b (i j : Bool) : hEq (.bool i) (.bool j) = .ok (.bool (i == j)) := by unfold hEq; rw [shaped_bool, shaped_bool]; simp [PyData.eqv]
theorem hNe_b (i j : Bool) : hNe (.bool i) (.bool j) = .ok (.bool (!(i == j))) := by unfold hNe; rw [shaped_bool, shaped_bool]; simp [PyData.eqv]
theorem hLen_l (xs : List Dt) : hLen [.list xs] = .ok (.int xs.length) := rfl
theorem hLen_t (xs : List Dt) : hLen [.tuple xs] = .ok (.int xs.length) := rfl
theorem hMin2_i (i j : Int) : hMin2 [.int i, .int j] = .ok (.int (if j < i then j else i)) := rfl
theorem hMax2_i (i j : Int) : hMax2 [.int i, .int j] = .ok (.int (if j > i then j else i)) := rfl
theorem hMin3_i (i j k : Int) : hMin3 [.int i, .int j, .int k] = .ok (.int (if j < i then (if k < j then k else j) else (if k < i then k else i))) := rfl
theorem hInt1_b (k : Bool) : hInt1 [.bool k] = .ok (.int (if k then 1 else 0)) := rfl
theorem hInt1_i (k : Int) : hInt1 [.int k] = .ok (.int k) := rfl
theorem hBits_i (i : Int) : hBits (.int i) = .ok (.int (Builtin.Int.intBits i : Nat)) := rfl
theorem hListOf_l (xs : List Dt) : one hListOf [.list xs] = .ok (.list xs) := rfl
theorem hListOf_t (xs : List Dt) : one hListOf [.tuple xs] = .ok (.list xs) := rfl
theorem hTupOf_l (xs : List Dt) : one hTupOf [.list xs] = .ok (.tuple xs) := rfl
theorem hTupOf_t (xs : List Dt) : one hTupOf [.tuple xs] = .ok (.tuple xs) := rfl

/-! ### statements -/
theorem seq_nx {a b : Gs} {ρ ρ' : List Dt} (h : a ρ = .ok (.nx ρ')) : gSeqS a b ρ = b ρ' := by unfold gSeqS; rw [h]
theorem seq_rt {a b : Gs} {ρ : List Dt} {d : Dt} (h : a ρ = .ok (.rt d)) : gSeqS a b ρ = .ok (.rt d) := by unfold gSeqS; rw [h]
theorem set_ok {i : Nat} {g : Gd} {ρ : List Dt} {d : Dt} (h : g ρ = .ok d) : gSet i g ρ = .ok (.nx (ρ.set i d)) := by unfold gSet; rw [h]; rfl
theorem ret_ok {g : Gd} {ρ : List Dt} {d : Dt} (h : g ρ = .ok d) : gRet g ρ = .ok (.rt d) := by unfold gRet; rw [h]; rfl
theorem if_t {t : List Dt → O Bool} {a b : Gs} {ρ : List Dt} (h : t ρ = .ok true) : gIfS t a b ρ = a ρ := by unfold gIfS; rw [h]; rfl
theorem if_f {t : List Dt → O Bool} {a b : Gs} {ρ : List Dt} (h : t ρ = .ok false) : gIfS t a b ρ = b ρ := by unfold gIfS; rw [h]; rfl
theorem gSeqS_def (a b : Gs) (ρ : List Dt) : gSeqS a b ρ = match a ρ with | .ok (.nx ρ') => b ρ' | o => o := rfl
theorem gSet_def (i : Nat) (g : Gd) (ρ : List Dt) : gSet i g ρ = bnd (g ρ) fun d => .ok (.nx (ρ.set i d)) := rfl
theorem gRet_def (g : Gd) (ρ : List Dt) : gRet g ρ = bnd (g ρ) fun d => .ok (.rt d) := rfl
theorem gIfS_def (t : List Dt → O Bool) (a b : Gs) (ρ : List Dt) : gIfS t a b ρ = bnd (t ρ) fun c => if c then a ρ else b ρ := rfl
theorem gNext_def (ρ : List Dt) : gNext ρ = .ok (.nx ρ) := rfl
theorem gApp_l {i : Nat} {g : Gd} {ρ : List Dt} {ds : List Dt} {d : Dt} (h1 : ρ[i]? = some (.list ds)) (h2 : g ρ = .ok d) (h3 : ds.length < 100000) : gApp i g ρ = .ok (.nx (ρ.set i (.list (ds ++ [d])))) := by
  unfold gApp
  rw [h1]
  simp only [h2, bnd_ok]
  rw [if_pos h3]
theorem gExt_l {i : Nat} {g : Gd} {ρ : List Dt} {ds es : List Dt} (h1 : ρ[i]? = some (.list ds)) (h2 : g ρ = .ok (.list es)) (h3 : ds.length + es.length ≤ 100000) : gExt i g ρ = .ok (.nx (ρ.set i (.list (ds ++ es)))) := by
  unfold gExt
  rw [h1]
  simp only [h2, bnd_ok]
  rw [if_pos h3]
theorem callN_ok {n : Nat} {g : List Dt → O Dt} {gA : List Dt → O (List Dt)} {ρ ds : List Dt} {d : Dt} (h1 : gA ρ = .ok ds) (h2 : ds.length = n) (h3 : g ds = .ok d) : gCallN n g gA ρ = .ok d := by
  unfold gCallN
  rw [h1, bnd_ok, if_pos h2, h3]
theorem asg_ok {g : Gd} {h : Dt → List Dt → O (List Dt)} {ρ ρ' : List Dt} {d : Dt} (h1 : g ρ = .ok d) (h2 : h d ρ = .ok ρ') : gAsg g h ρ = .ok (.nx ρ') := by
  unfold gAsg
  rw [h1, bnd_ok, h2]
theorem fnN_rt {m : Nat} {g : Gs} {ds : List Dt} {d : Dt} (h : g (ds ++ List.replicate (m - ds.length) .none) = .ok (.rt d)) : fnN m g ds = .ok d := by unfold fnN; rw [h]
theorem fnL_rt {m : Nat} {g : Gs} {ds : List Dt} {d : Dt} (h : g (ds ++ List.replicate (m - ds.length) .none) = .ok (.rt d)) : fnL m g ds = .ok d := by unfold fnL; rw [h]

/-! ### walks and comprehensions -/
theorem lcE_map {α : Type} (enc : α → Dt) (p : α → Bool) (q : α → Dt) {h : Dt → List Dt → O (List Dt)} {gt : List Dt → O Bool} {ge : Gd} {ρ : List Dt} : ∀ (xs : List α), (∀ x ∈ xs, ∃ ρ', h (enc x) ρ = .ok ρ' ∧ gt ρ' = .ok (p x) ∧ (p x = true → ge ρ' = .ok (q x))) →
    lcE h gt ge ρ (xs.map enc) = .ok ((xs.filter p).map q)
  | [], _ => rfl
  | x :: xs, H => by
    obtain ⟨ρ', h1, h2, h3⟩ := H x List.mem_cons_self
    have ih := lcE_map enc p q xs fun y hy => H y (List.mem_cons_of_mem _ hy)
    rw [List.map_cons]
    unfold lcE
    rw [h1, bnd_ok, h2, bnd_ok]
    cases hp : p x with
    | true => rw [if_pos rfl, h3 hp, bnd_ok, ih, bnd_ok, List.filter_cons_of_pos hp, List.map_cons]
    | false => rw [if_neg Bool.false_ne_true, ih, List.filter_cons_of_neg (by rw [hp]; exact Bool.false_ne_true)]
theorem gLc_map {α : Type} (enc : α → Dt) (p : α → Bool) (q : α → Dt) {gi : List Dt → O (List Dt)} {h : Dt → List Dt → O (List Dt)} {gt : List Dt → O Bool} {ge : Gd} {ρ : List Dt} {xs : List α} (h1 : gi ρ = .ok (xs.map enc)) (h2 : xs.length ≤ 100000)
    (H : ∀ x ∈ xs, ∃ ρ', h (enc x) ρ = .ok ρ' ∧ gt ρ' = .ok (p x) ∧ (p x = true → ge ρ' = .ok (q x))) : gLc gi h gt ge ρ = .ok (.list ((xs.filter p).map q)) := by
  unfold gLc
  rw [h1, bnd_ok, if_pos (by rw [List.length_map]; exact h2), lcE_map enc p q xs H]
/-- a for whose turns go on: the state is a fold -/
theorem forE_fold {α β : Type} (enc : α → Dt) (st : β → List Dt) (step : β → α → β) {h : Dt → List Dt → O (List Dt)} {b : Gs} (I : List α → β → Prop) : ∀ (xs : List α) (pre : List α) (s : β), I pre s →
    (∀ pre x s, x ∈ xs → I pre s → (∃ ρ1, h (enc x) (st s) = .ok ρ1 ∧ (b ρ1 = .ok (.nx (st (step s x))) ∨ b ρ1 = .ok (.ct (st (step s x))))) ∧ I (pre ++ [x]) (step s x)) →
    forE h b (xs.map enc) (st s) = .ok (.nx (st (xs.foldl step s))) ∧ I (pre ++ xs) (xs.foldl step s)
  | [], pre, s, hi, _ => ⟨rfl, by rw [List.append_nil]; exact hi⟩
  | x :: xs, pre, s, hi, H => by
    obtain ⟨⟨ρ1, h1, h2⟩, h3⟩ := H pre x s List.mem_cons_self hi
    have ih := forE_fold enc st step I xs (pre ++ [x]) (step s x) h3 fun pre y s hy hi => H pre y s (List.mem_cons_of_mem _ hy) hi
    rw [List.append_assoc] at ih
    refine ⟨?_, ih.2⟩
    rw [List.map_cons]
    unfold forE
    rw [h1]
    simp only
    rcases h2 with h2 | h2
    · rw [h2, bnd_ok]; exact ih.1
    · rw [h2, bnd_ok]; exact ih.1
/-- a for by an invariant over the states themselves -/
theorem forE_inv {α : Type} (enc : α → Dt) {h : Dt → List Dt → O (List Dt)} {b : Gs} (I : List α → List Dt → Prop) : ∀ (xs : List α) (pre : List α) (ρ : List Dt), I pre ρ →
    (∀ pre x ρ, x ∈ xs → I pre ρ → ∃ ρ1 ρ2, h (enc x) ρ = .ok ρ1 ∧ (b ρ1 = .ok (.nx ρ2) ∨ b ρ1 = .ok (.ct ρ2)) ∧ I (pre ++ [x]) ρ2) →
    ∃ ρ', forE h b (xs.map enc) ρ = .ok (.nx ρ') ∧ I (pre ++ xs) ρ'
  | [], pre, ρ, hi, _ => ⟨ρ, rfl, by rw [List.append_nil]; exact hi⟩
  | x :: xs, pre, ρ, hi, H => by
    obtain ⟨ρ1, ρ2, h1, h2, h3⟩ := H pre x ρ List.mem_cons_self hi
    obtain ⟨ρ', ih1, ih2⟩ := forE_inv enc I xs (pre ++ [x]) ρ2 h3 fun pre y s hy hi => H pre y s (List.mem_cons_of_mem _ hy) hi
    rw [List.append_assoc] at ih2
    refine ⟨ρ', ?_, ih2⟩
    rw [List.map_cons]
    unfold forE
    rw [h1]
    simp only
    rcases h2 with h2 | h2
    · rw [h2, bnd_ok]; exact ih1
    · rw [h2, bnd_ok]; exact ih1
/-- a for by an invariant over the turn's number -/
theorem forE_ix {α : Type} (enc : α → Dt) {h : Dt → List Dt → O (List Dt)} {b : Gs} (xs : List α) (I : Nat → List Dt → Prop) {ρ : List Dt} (h0 : I 0 ρ)
    (H : ∀ i ρ (hi : i < xs.length), I i ρ → ∃ ρ1 ρ2, h (enc xs[i]) ρ = .ok ρ1 ∧ (b ρ1 = .ok (.nx ρ2) ∨ b ρ1 = .ok (.ct ρ2)) ∧ I (i + 1) ρ2) :
    ∃ ρ', forE h b (xs.map enc) ρ = .ok (.nx ρ') ∧ I xs.length ρ' := by
  have key : ∀ n i ρ, i + n = xs.length → I i ρ → ∃ ρ', forE h b ((xs.drop i).map enc) ρ = .ok (.nx ρ') ∧ I xs.length ρ' := by
    intro n
    induction n with
    | zero =>
      intro i ρ e hi
      have e : i = xs.length := by omega
      subst e
      rw [List.drop_length]
      exact ⟨ρ, rfl, hi⟩
    | succ n ih =>
      intro i ρ e hi
      have hlt : i < xs.length := by omega
      obtain ⟨ρ1, ρ2, h1, h2, h3⟩ := H i ρ hlt hi
      obtain ⟨ρ', q1, q2⟩ := ih (i + 1) ρ2 (by omega) h3
      refine ⟨ρ', ?_, q2⟩
      rw [List.drop_eq_getElem_cons hlt, List.map_cons]
      unfold forE
      rw [h1]
      simp only
      rcases h2 with h2 | h2
      · rw [h2, bnd_ok]; exact q1
      · rw [h2, bnd_ok]; exact q1
  have := key xs.length 0 ρ (by omega) h0
  rwa [List.drop_zero] at this
theorem for_ok {gi : List Dt → O (List Dt)} {h : Dt → List Dt → O (List Dt)} {b : Gs} {ρ : List Dt} {ds : List Dt} {z : O Fl} (h1 : gi ρ = .ok ds) (h2 : forE h b ds ρ = z) : gFor gi h b ρ = z := by unfold gFor; rw [h1, bnd_ok, h2]
theorem while_f {t : List Dt → O Bool} {b : Gs} {n : Nat} {ρ : List Dt} (h : t ρ = .ok false) (hn : n ≠ 0 := by decide) : gWhile t b n ρ = .ok (.nx ρ) := by
  cases n with
  | zero => exact absurd rfl hn
  | succ n => unfold gWhile; rw [h]; rfl
theorem while_t {t : List Dt → O Bool} {b : Gs} {n : Nat} {ρ ρ' : List Dt} (h : t ρ = .ok true) (h2 : b ρ = .ok (.nx ρ')) : gWhile t b (n + 1) ρ = gWhile t b n ρ' := by
  conv => lhs; unfold gWhile
  simp only [h, bnd_ok, if_true, h2]
theorem rng1_ok {g : List Dt → O (List Dt)} {ρ : List Dt} {j : Int} (h : g ρ = .ok [.int j]) (h1 : -4611686018427387904 ≤ j) (h2 : j < 4611686018427387904) : gRng1 g ρ = .ok (rangeD 0 j) := by
  unfold gRng1
  rw [h, bnd_ok]
  unfold rng1
  simp only
  rw [if_pos (by constructor <;> omega)]
theorem rng2_ok {g : List Dt → O (List Dt)} {ρ : List Dt} {i j : Int} (h : g ρ = .ok [.int i, .int j]) (h1 : -4611686018427387904 ≤ j) (h2 : j < 4611686018427387904) (h3 : -4611686018427387904 ≤ i) (h4 : i < 4611686018427387904) : gRng2 g ρ = .ok (rangeD i j) := by
  unfold gRng2
  rw [h, bnd_ok]
  unfold rng2
  simp only
  rw [if_pos (by refine ⟨?_, ?_, ?_, ?_⟩ <;> omega)]
theorem rangeD_nat (n : Nat) : rangeD 0 (n : Int) = (List.range n).map fun (i : Nat) => PyData.int (i : Int) := by
  unfold rangeD
  rw [Int.sub_zero, Int.toNat_natCast]
  apply List.map_congr_left
  intro i _
  rw [Int.zero_add]
theorem seqG_l {g : Gd} {ρ : List Dt} {ds : List Dt} (h : g ρ = .ok (.list ds)) : gSeq g ρ = .ok ds := by unfold gSeq; rw [h]; rfl
theorem seqG_t {g : Gd} {ρ : List Dt} {ds : List Dt} (h : g ρ = .ok (.tuple ds)) : gSeq g ρ = .ok ds := by unfold gSeq; rw [h]; rfl

/-! ### lists of ints -/
abbrev dI (i : Int) : Dt := .int i
abbrev dIs (xs : List Int) : Dt := .list (xs.map .int)
theorem allI_map : ∀ xs : List Int, allI (xs.map .int) = some xs
  | [] => rfl
  | x :: xs => by rw [List.map_cons]; unfold allI; rw [allI_map xs]; rfl
theorem allB_map : ∀ xs : List Bool, allB (xs.map .bool) = some xs
  | [] => rfl
  | x :: xs => by rw [List.map_cons]; unfold allB; rw [allB_map xs]; rfl
theorem canLay_ints : ∀ xs : List Int, PyData.canLayAll0 (xs.map .int) = true
  | [] => by simp [PyData.canLayAll0]
  | x :: xs => by simp [PyData.canLayAll0, PyData.canLay0, canLay_ints xs]
theorem depth_ints : ∀ xs : List Int, PyData.depthAll (xs.map .int) = 0
  | [] => by simp [PyData.depthAll]
  | x :: xs => by simp [PyData.depthAll, PyData.depth, depth_ints xs]
theorem shaped_ints (xs : List Int) : SeqAt.shaped (.list (xs.map .int)) = true := by simp [SeqAt.shaped, PyData.canLay0, PyData.depth, canLay_ints, depth_ints]
theorem shaped_intsT (xs : List Int) : SeqAt.shaped (.tuple (xs.map .int)) = true := by simp [SeqAt.shaped, PyData.canLay0, PyData.depth, canLay_ints, depth_ints]
theorem eqvAll_ints : ∀ xs ys : List Int, PyData.eqvAll (xs.map .int) (ys.map .int) = decide (xs = ys)
  | [], [] => by simp [PyData.eqvAll]
  | [], _ :: _ => by simp [PyData.eqvAll]
  | _ :: _, [] => by simp [PyData.eqvAll]
  | x :: xs, y :: ys => by
    simp only [List.map_cons, PyData.eqvAll, PyData.eqv, eqvAll_ints xs ys]
    by_cases h1 : x = y <;> by_cases h2 : xs = ys <;> simp [h1, h2]
theorem hEq_ints (xs ys : List Int) : hEq (.list (xs.map .int)) (.list (ys.map .int)) = .ok (.bool (decide (xs = ys))) := by
  unfold hEq; rw [shaped_ints, shaped_ints]; simp only [PyData.eqv, eqvAll_ints, Bool.and_self, if_true]
theorem hNe_ints (xs ys : List Int) : hNe (.list (xs.map .int)) (.list (ys.map .int)) = .ok (.bool (!decide (xs = ys))) := by
  unfold hNe; rw [shaped_ints, shaped_ints]; simp only [PyData.eqv, eqvAll_ints, Bool.and_self, if_true]
theorem any_ints (i : Int) : ∀ xs : List Int, ((xs.map PyData.int).any fun z => PyData.eqv z (.int i)) = decide (i ∈ xs)
  | [] => by simp
  | x :: xs => by
    rw [List.map_cons, List.any_cons, any_ints i xs]
    simp only [PyData.eqv, List.mem_cons]
    by_cases h : x = i
    · subst h; simp
    · have h' : ¬ i = x := fun e => h e.symm
      simp [h, h']
theorem hIn_ints (i : Int) (xs : List Int) : hIn (.int i) (.list (xs.map .int)) = .ok (.bool (decide (i ∈ xs))) := by
  unfold hIn; simp only [shaped_int, shaped_ints, Bool.and_self, if_true, any_ints]
theorem hNotIn_ints (i : Int) (xs : List Int) : hNotIn (.int i) (.list (xs.map .int)) = .ok (.bool (!decide (i ∈ xs))) := by
  unfold hNotIn; simp only [shaped_int, shaped_ints, Bool.and_self, if_true, any_ints]
theorem hIn_intsT (i : Int) (xs : List Int) : hIn (.int i) (.tuple (xs.map .int)) = .ok (.bool (decide (i ∈ xs))) := by
  unfold hIn; simp only [shaped_int, shaped_intsT, Bool.and_self, if_true, any_ints]
theorem hNotIn_intsT (i : Int) (xs : List Int) : hNotIn (.int i) (.tuple (xs.map .int)) = .ok (.bool (!decide (i ∈ xs))) := by
  unfold hNotIn; simp only [shaped_int, shaped_intsT, Bool.and_self, if_true, any_ints]
theorem hSorted_ints (xs : List Int) : one hSorted [.list (xs.map .int)] = .ok (.list ((isort xs).map .int)) := by
  unfold one hSorted; simp only [allI_map]
theorem pureA_ints : ∀ xs : List Int, pureA (xs.map .int) = true
  | [] => rfl
  | x :: xs => by rw [List.map_cons]; unfold pureA; rw [pureA_ints xs]; rfl
theorem atI_map {α β : Type} (f : α → β) {xs : List α} {i : Int} (h0 : 0 ≤ i) (h1 : i < xs.length) : L2.atI (xs.map f) i = some (f (xs[i.toNat]'(by omega))) := by
  obtain ⟨j, rfl⟩ : ∃ j : Nat, i = j := ⟨i.toNat, by omega⟩
  have hj : j < xs.length := by omega
  refine L2.atI_nat ?_
  rw [List.getElem?_map, List.getElem?_eq_getElem hj]
  rfl
theorem hIx_l {ds : List Dt} {i : Int} {z : Dt} (h : L2.atI ds i = some z) : hIx (.list ds) (.int i) = .ok z := by unfold hIx; simp only [h]
theorem hIx_t {ds : List Dt} {i : Int} {z : Dt} (h : L2.atI ds i = some z) : hIx (.tuple ds) (.int i) = .ok z := by unfold hIx; simp only [h]
theorem hIx_ints {xs : List Int} {i : Int} (h0 : 0 ≤ i) (h1 : i < xs.length) : hIx (.list (xs.map .int)) (.int i) = .ok (.int (xs[i.toNat]'(by omega))) := hIx_l (atI_map _ h0 h1)
theorem sIx_none (n d : Nat) : HT.sIx n d none = d := rfl
theorem cutD_from {α : Type} (f : α → Dt) (xs : List α) (k : Nat) : cutD (xs.map f) (some (k : Int)) none = (xs.drop k).map f := by
  unfold cutD
  rw [HT.sIx_nat, sIx_none, List.length_map]
  rcases Nat.lt_or_ge k xs.length with h | h
  · rw [Nat.min_eq_left (Nat.le_of_lt h), ← List.map_drop, List.take_of_length_le (by rw [List.length_map, List.length_drop]; omega)]
  · rw [Nat.min_eq_right h, List.drop_of_length_le (by rw [List.length_map]; omega), List.drop_of_length_le h]
    simp
theorem cutD_to {α : Type} (f : α → Dt) (xs : List α) (k : Nat) : cutD (xs.map f) none (some (k : Int)) = (xs.take k).map f := by
  unfold cutD
  rw [HT.sIx_nat, sIx_none, List.length_map, List.drop_zero, Nat.sub_zero, ← List.map_take]
  rcases Nat.lt_or_ge k xs.length with h | h
  · rw [Nat.min_eq_left (Nat.le_of_lt h)]
  · rw [Nat.min_eq_right h, List.take_of_length_le (Nat.le_refl _), List.take_of_length_le h]
theorem hSl_from {α : Type} (f : α → Dt) (xs : List α) (k : Nat) : hSl (.list (xs.map f)) (some (k : Int)) none = .ok (.list ((xs.drop k).map f)) := by unfold hSl; rw [← cutD_from]
theorem hSl_to {α : Type} (f : α → Dt) (xs : List α) (k : Nat) : hSl (.list (xs.map f)) none (some (k : Int)) = .ok (.list ((xs.take k).map f)) := by unfold hSl; rw [← cutD_to]
theorem hCat_l {xs ys : List Dt} (h : xs.length + ys.length ≤ 100000) : hCat (.list xs) (.list ys) = .ok (.list (xs ++ ys)) := by unfold hCat; simp only [h, if_true]
theorem hCat_map {α : Type} (f : α → Dt) (xs ys : List α) (h : xs.length + ys.length ≤ 100000) : hCat (.list (xs.map f)) (.list (ys.map f)) = .ok (.list ((xs ++ ys).map f)) := by
  rw [hCat_l (by rw [List.length_map, List.length_map]; exact h), List.map_append]
theorem hRep_l {xs : List Dt} {k : Int} (h0 : 0 ≤ k) (h1 : k < 100) (h : xs.length ≤ 1000) : hRep (.list xs) (.int k) = .ok (.list (List.replicate k.toNat xs).flatten) := by
  unfold hRep
  simp only
  rw [if_pos]
  refine ⟨by omega, by omega, ?_⟩
  have : xs.length * k.toNat ≤ 1000 * 100 := Nat.mul_le_mul h (by omega)
  omega

/-! ### sorting ints -/
theorem isort_eq {a b : List Int} (p : a.Perm b) : isort a = isort b := sorted_unique ((isort_perm a).trans (p.trans (isort_perm b).symm)) (isort_sorted a) (isort_sorted b)
theorem isort_id {a : List Int} (h : a.Pairwise (· ≤ ·)) : isort a = a := sorted_unique (isort_perm a) (isort_sorted a) h
theorem seq_step {a b : Gs} {ρ ρ' : List Dt} {z : O Fl} (h : a ρ = .ok (.nx ρ')) (k : b ρ' = z) : gSeqS a b ρ = z := by rw [seq_nx h]; exact k
theorem gCallN_def (n : Nat) (g : List Dt → O Dt) (gA : List Dt → O (List Dt)) (ρ : List Dt) : gCallN n g gA ρ = bnd (gA ρ) fun ds => if ds.length = n then (match g ds with | .ok d => .ok d | _ => .bad) else .bad := rfl
theorem gAsg_def (g : Gd) (h : Dt → List Dt → O (List Dt)) (ρ : List Dt) : gAsg g h ρ = bnd (g ρ) fun d => match h d ρ with | .ok ρ' => .ok (.nx ρ') | _ => .bad := rfl
theorem gSl_def (h : Dt → Option Int → Option Int → O Dt) (g : Gd) (gl gh : List Dt → O (Option Int)) (ρ : List Dt) : gSl h g gl gh ρ = bnd (g ρ) fun d => bnd (gl ρ) fun lo => bnd (gh ρ) fun hi => h d lo hi := rfl
theorem gNoPart_def (ρ : List Dt) : gNoPart ρ = .ok none := rfl
theorem gPart_def (g : Gd) (ρ : List Dt) : gPart g ρ = bnd (g ρ) fun d => match d with | .int i => .ok (some i) | _ => .bad := rfl
theorem hSl_from' {α : Type} (f : α → Dt) (xs : List α) {k : Int} (h : 0 ≤ k) : hSl (.list (xs.map f)) (some k) none = .ok (.list ((xs.drop k.toNat).map f)) := by
  have := hSl_from f xs k.toNat
  rwa [show ((k.toNat : Nat) : Int) = k by omega] at this
theorem hSl_to' {α : Type} (f : α → Dt) (xs : List α) {k : Int} (h : 0 ≤ k) : hSl (.list (xs.map f)) none (some k) = .ok (.list ((xs.take k.toNat).map f)) := by
  have := hSl_to f xs k.toNat
  rwa [show ((k.toNat : Nat) : Int) = k by omega] at this
/-- the places -/
def pl (n : Int) : List Int := (List.range n.toNat).map fun (i : Nat) => (i : Int)
theorem rangeD_pl (n : Int) : rangeD 0 n = (pl n).map .int := by
  unfold rangeD pl
  rw [List.map_map, Int.sub_zero]
  apply List.map_congr_left
  intro i _
  show PyData.int (0 + (i : Int)) = PyData.int (i : Int)
  rw [Int.zero_add]
theorem mem_pl {n p : Int} : p ∈ pl n ↔ 0 ≤ p ∧ p < n := by
  unfold pl
  rw [List.mem_map]
  constructor
  · rintro ⟨i, h, rfl⟩
    rw [List.mem_range] at h
    omega
  · rintro ⟨h1, h2⟩
    exact ⟨p.toNat, List.mem_range.mpr (by omega), by omega⟩
theorem pl_len (n : Int) : (pl n).length = n.toNat := by unfold pl; rw [List.length_map, List.length_range]
theorem pl_nodup (n : Int) : (pl n).Nodup := by
  unfold pl
  refine List.Pairwise.map _ (fun a b h => ?_) List.nodup_range
  omega
theorem pl_sorted (n : Int) : (pl n).Pairwise (· < ·) := by
  unfold pl
  refine List.Pairwise.map _ (fun a b h => ?_) List.pairwise_lt_range
  omega
theorem map_snoc (xs : List Int) (z : Int) : xs.map PyData.int ++ [PyData.int z] = (xs ++ [z]).map PyData.int := by rw [List.map_append]; rfl
end Sim
end T_SimP

section T_SimI
set_option Elab.async false
set_option linter.all false
set_option maxRecDepth 100000
/-! SimI: isinstance, what is never reached, enumerate, reversed, zip, list(range), list(reversed). -/
namespace Sim
open PySem PySem.Spec L2
open PyProof.Rows hiding St

/-! ### list(reversed(list)) -/
section
variable {prog : Program} {w : World} {A : Around} {E : Value → Shared → Prop} {s : Shared}
theorem extend_rev {R : Result → Shared → Prop} {it l : Addr} {items : Array Value} (hh : A.handled = none) (hit : s.heap.IsRevIter it l ((items.size : Int) - 1)) (hl : s.heap.IsList l items) (hne : l ≠ it) (hn : items.size ≤ sizeLine)
    (S : Addr) (res : Value) {c₀ : Nat} (hS : s.heap.get? S = some { cls := .type "list", data := .seq #[] c₀ })
    (hSi : S ≠ it) (hSl : S ≠ l)
    (hR : ∀ h' tk acc' c', (∀ b o, b ≠ S → b ≠ it → s.heap.get? b = some o → h'.get? b = some o) → h'.get? S = some { cls := .type "list", dict := none, data := .seq acc' c', slots := #[] } →
      ItemsOf (fun i v => items[items.size - 1 - i]? = some v) acc' items.size → R (.ok (.ret res)) { s with heap := h', toks := tk }) :
    wpAny (model prog w) A.in1 (Builtin.List.listExtendWith (.ref S) (.ref it) res)
      (fun fin s' => match fin with | .done f => R (.ok f) s' | .again c' => c'.quiet = true ∧ codeAny (model prog w) A c' R s') (fun e s' => R (.error e) s') s := by
  have W := (Walks.listRev (prog := prog) (w := w) (A := A.in1) hh it l hne items).toS
  have hSf : S ∉ [it, l] := by simp only [List.mem_cons, List.not_mem_nil, or_false, not_or]; exact ⟨hSi, hSl⟩
  have hT : s.TypeIs (.ref it) "list_reverseiterator" := hit.typeIs
  have h1 : Builtin.List.listSameRef (.ref S) (.ref it) = false := by simp [Builtin.List.listSameRef, hSi]
  unfold Builtin.List.listExtendWith
  refine wpAny_bind (wpAny_typeOf hT ?_)
  rw [if_neg (by rw [h1]; decide)]
  refine wpAny_bind (wpAny_pyIter_revIter hit ?_)
  refine wpAny_bind (wpAny_holding ?_)
  unfold Builtin.List.listLengthHint
  refine wpAny_bind (wpAny_specialOf hT RT.nolen_lri ?_)
  show wpAny _ A.in1 (specialOf (Value.ref it) (Str.ofString "__length_hint__") >>= _) _ _ _
  refine wpAny_bind (wpAny_specialOf hT RT.hint_lri ?_)
  generalize hid : ("list_reverseiterator.__length_hint__" : String) = id0
  wp_delta
  rw [show splitId id0 = some ("list_reverseiterator", "__length_hint__") from by subst hid; decide +kernel]
  subst hid
  refine wpAny_bind (wpAny_isInstance (b := true) hT (by rw [isSubtype_type]; kernel_rfl) ?_)
  refine wpAny_pure ?_
  rw [if_neg (by decide)]
  have e0 : ((items.size : Nat) : Int) - 1 - ((0 : Nat) : Int) = (items.size : Int) - 1 := by omega
  refine wpAny_pure ⟨plainId_quiet F.plain_extend_loop _, codeAny_extend_loopS W hn _ hSf _ items.size 0 _ _ _ rfl (Nat.zero_le _) ⟨Nat.zero_le _, by rw [e0]; exact hit, hl⟩ hS (ItemsOf.nil _) fun s' acc' c' hm hS' hacc => ?_⟩
  rw [Moved.eq_with hm]
  refine hR s'.heap s'.toks acc' c' (fun b o hb hb2 e => hm.heap b o (fun hmem => ?_) e) hS' hacc
  rcases List.mem_cons.mp hmem with e' | hmem
  · exact hb e'
  · exact hb2 (List.mem_singleton.mp hmem)
theorem list_init_rev {R : Result → Shared → Prop} {it l : Addr} {items : Array Value} (hh : A.handled = none) (hit : s.heap.IsRevIter it l ((items.size : Int) - 1)) (hl : s.heap.IsList l items) (hne : l ≠ it) (hn : items.size ≤ sizeLine)
    (S : Addr) (hS : s.heap.get? S = some { cls := .type "list", data := .seq #[] }) (hSi : S ≠ it) (hSl : S ≠ l)
    (hR : ∀ h' tk acc' c', (∀ b o, b ≠ S → b ≠ it → s.heap.get? b = some o → h'.get? b = some o) → h'.get? S = some { cls := .type "list", dict := none, data := .seq acc' c', slots := #[] } →
      ItemsOf (fun i v => items[items.size - 1 - i]? = some v) acc' items.size → R (.ok (.ret .none)) { s with heap := h', toks := tk }) :
    wpAny (model prog w) A.in1 (Builtin.«list.__init__» ⟨[.ref S, .ref it], []⟩)
      (fun fin s' => match fin with | .done f => R (.ok f) s' | .again c' => c'.quiet = true ∧ codeAny (model prog w) A c' R s') (fun e s' => R (.error e) s') s := by
  show wpAny _ _ (do let old ← Builtin.List.listItems (.ref S); Builtin.List.listUpdate (.ref S) (fun _ => #[]); letGo old.toList.reverse; Builtin.List.listExtendWith (.ref S) (.ref it) .none) _ _ s
  refine wpAny_bind ?_
  unfold Builtin.List.listItems
  refine wpAny_bind (wpAny_seqItems hS rfl (wpAny_pure ?_))
  show wpAny _ _ (updateSeq S (fun _ => #[]) >>= fun _ => letGo (#[] : Array Value).toList.reverse >>= fun _ => Builtin.List.listExtendWith (.ref S) (.ref it) .none) _ _ s
  refine wpAny_bind (wpAny_updateSeq hS rfl ?_)
  have hS₂ := Heap.get?_update_self (Obj.mapSeq (fun _ => (#[] : Array Value))) hS rfl
  have oth : ∀ b o, b ≠ S → s.heap.get? b = some o → (s.heap.update S (Obj.mapSeq (fun _ => (#[] : Array Value)))).get? b = some o :=
    fun b o hb e => (Heap.get?_update_other _ _ (Ne.symm hb)).trans e
  refine wpAny_bind (wpAny_letGo ?_)
  exact extend_rev (s := { s with heap := s.heap.update S (Obj.mapSeq (fun _ => (#[] : Array Value))) }) hh (hit.at fun o e => oth it o (Ne.symm hSi) e) (hl.at fun o e => oth l o (Ne.symm hSl) e) hne hn S .none hS₂ hSi hSl fun h' tk acc' c' hk hS' hacc =>
    hR h' tk acc' c' (fun b o hb hb2 e => hk b o hb hb2 (oth b o hb e)) hS' hacc
theorem call_list_rev {it l : Addr} {items : Array Value} {Q : Value → Shared → Prop} (hh : A.handled = none) (hit : s.heap.IsRevIter it l ((items.size : Int) - 1)) (hl : s.heap.IsList l items) (hne : l ≠ it) (hn : items.size ≤ sizeLine)
    (hQ : ∀ h' tk acc' c', (∀ b o, b ≠ it → s.heap.get? b = some o → h'.get? b = some o) →
      h'.get? s.heap.objs.size = some { cls := .type "list", dict := none, data := .seq acc' c', slots := #[] } → ItemsOf (fun i v => items[items.size - 1 - i]? = some v) acc' items.size → Q (.ref s.heap.objs.size) { s with heap := h', toks := tk }) :
    wpAny (model prog w) A (call (.type "list") [.ref it]) Q E s := by
  refine callType_codes (Q₁ := fun obj s₁ => obj = .ref s.heap.objs.size ∧ s₁ = { s with heap := s.heap.push { cls := .type "list", data := .seq #[] } }) F.called_list (F.typeCall_list_1 _) F.entry_list_init
    (code_list_new _ ⟨rfl, rfl⟩) fun obj s₁ h₁ => ?_
  obtain ⟨rfl, rfl⟩ := h₁
  have hS : (s.heap.push { cls := .type "list", data := .seq #[] }).get? s.heap.objs.size = some { cls := .type "list", data := .seq #[] } := Heap.get?_push_size _ rfl
  obtain ⟨oi, hoi, _⟩ := id hit
  obtain ⟨ol, hol, _⟩ := id hl
  refine ⟨⟨_, hS, rfl⟩, F.args_list_init_2 _ _, list_init_rev (A := A.in1) (s := { s with heap := s.heap.push { cls := .type "list", data := .seq #[] } }) hh (hit.at fun o e => Heap.get?_push_of_some _ e) (hl.push _) hne hn _ hS (Nat.ne_of_gt (Heap.lt_size hoi)) (Nat.ne_of_gt (Heap.lt_size hol)) fun h' tk acc' c' hk hS' hacc => ?_⟩
  exact ⟨rfl, hQ h' tk acc' c' (fun b o hb e => hk b o (Nat.ne_of_lt (Heap.lt_size e)) hb (Heap.get?_push_of_some _ e)) hS' hacc⟩
end
def tLstRev (K : PySem.W.Frag) (te : TE) : TE := fun σ H Q => te σ H fun v H1 => ∃ (a : Addr) (xs : List V), v = .ref a ∧ SqL K H1 a xs ∧ ∀ q, H1 q = none → Q (.ref q) (upd H1 q (.lst xs.reverse))
section
variable {X : Cx}
theorem pe_lstRev {e : Expr} {te : TE} {p p2 pos pos2 : Pos} (hc : X.calm = true) (hg : Gl X "list") (hm : X.mg "list" = none) (hg2 : Gl X "reversed") (hm2 : X.mg "reversed" = none) (he : PE X e te)
    (hs : starEach [e] X.env = (false, eval e X.env) :: starEach [] X.env := by rfl)
    (hs2 : starEach [.Call (.Name "reversed" p2) [e] [] pos2] X.env = (false, eval (.Call (.Name "reversed" p2) [e] [] pos2) X.env) :: starEach [] X.env := by rfl) :
    PE X (.Call (.Name "list" p) [.Call (.Name "reversed" p2) [e] [] pos2] [] pos) (tLstRev X.K te) := by
  refine ⟨fun pins s σ H Q I h => ?_⟩
  refine Call_ (ld_blt I hg hm boot_list (PyProof.Rows.callWith_type1 (args_cons (Call_ (ld_blt I hg2 hm2 PyProof.Rows.boot_reversed (PyProof.Rows.callWith_type1 (args_cons (thn (he.run pins s σ H _ I h) fun u s1 ⟨v, H1, I1, r1, q1⟩ => args_nil ?_) hs) hs rfl))) hs2) hs2 rfl))
  obtain ⟨a, xs, ev, hq, q⟩ := q1
  subst ev
  obtain rfl : u = Value.ref a := r1
  obtain ⟨its, rv, p', hz⟩ := I1.list hq
  refine call_reversed_list p'.isList (args_nil ?_)
  have k0 : ∀ b o, s1.heap.get? b = some o → (s1.heap.push (revObj a ((its.toArray.size : Int) - 1))).get? b = some o := fun b o e => Heap.get?_push_of_some _ e
  have I2 : Inv X pins σ H1 { s1 with heap := s1.heap.push (revObj a ((its.toArray.size : Int) - 1)) } := I1.kept (t' := s1.toks) k0
  obtain ⟨f0, f1, f2, f3, f4, f5⟩ := I1.fpOk (H' := H1) (b := s1.heap.objs.size) (Nat.le_refl _) (I1.hok.fresh (Nat.le_refl _))
  have hl := p'.isList
  obtain ⟨ol, hol, _⟩ := id hl
  have hne : a ≠ s1.heap.objs.size := Nat.ne_of_lt (Heap.lt_size hol)
  have hn : its.toArray.size ≤ sizeLine := by rw [List.size_toArray, ← rv.length]; exact hz
  refine call_list_rev (s := { s1 with heap := s1.heap.push (revObj a ((its.toArray.size : Int) - 1)) }) (I1.ok.hd hc) ⟨_, Heap.get?_push_size _ rfl, rfl, rfl⟩ (hl.push _) hne hn fun h' tk acc c' hk he' hi => ?_
  have I3 : Inv X pins σ H1 { s1 with heap := h', toks := tk } := I2.turned (t' := tk) (fun b o hb e => hk b o hb e) f0 f1 f3 f4 f5
  refine ⟨.ref (s1.heap.push (revObj a ((its.toArray.size : Int) - 1))).objs.size, upd H1 (s1.heap.push (revObj a ((its.toArray.size : Int) - 1))).objs.size (.lst xs.reverse), ?_, rfl, q _ (I2.hok.fresh (Nat.le_refl _))⟩
  refine I2.turnedNew (t' := tk) (ch := [s1.heap.objs.size]) (fun b o hb e => hk b o (fun z => hb (by simp [z])) e) (fun b hb => ?_) (Nat.le_refl _) (show ObjOk X.prog X.w _ _ _ (.lst xs.reverse) from ⟨by rw [List.length_reverse]; exact hz, acc.toList, c', RT.vals_rev rv hi, ?_⟩)
  · have e : b = s1.heap.objs.size := by simpa using hb
    subst e
    exact ⟨f0, f1, f2, f3, f4, f5⟩
  · rw [Array.toArray_toList]; exact he'
end

/-! ### isinstance -/
inductive Ty5 where
  | int | bool | str | list | tuple
def Ty5.nm : Ty5 → String
  | .int => "int"
  | .bool => "bool"
  | .str => "str"
  | .list => "list"
  | .tuple => "tuple"
def isaB (T : Ty5) : Dt → Option Bool
  | .none => some false
  | .bool _ => some (match T with | .bool => true | .int => true | _ => false)
  | .int _ => some (match T with | .int => true | _ => false)
  | .str _ => some (match T with | .str => true | _ => false)
  | .list _ => some (match T with | .list => true | _ => false)
  | .tuple _ => some (match T with | .tuple => true | _ => false)
  | .dict es => if exnL es then none else some false
def hIsa (T : Ty5) : Dt → O Dt := fun d => match isaB T d with
  | some b => .ok (.bool b)
  | none => .bad
theorem scl_isa {T : Ty5} : Scl1 (hIsa T) := fun d => by
  unfold hIsa
  cases isaB T d with
  | none => exact .inr rfl
  | some b => exact .inl ⟨_, rfl, rfl⟩
section
variable {K : PySem.W.Frag} {W : Wt} {Δ : List Kd} {te : TE} {g : Gd} {av fr : Bool} {T : Ty5}
theorem kit_non : PySem.W.kitOne K (.type "NoneType") (.type T.nm) = some false := by cases T <;> exact kit_ty (by decide +kernel)
theorem kit_bl : PySem.W.kitOne K (.type "bool") (.type T.nm) = some (match T with | .bool => true | .int => true | _ => false) := by cases T <;> exact kit_ty (by decide +kernel)
theorem kit_int : PySem.W.kitOne K (.type "int") (.type T.nm) = some (match T with | .int => true | _ => false) := by cases T <;> exact kit_ty (by decide +kernel)
theorem kit_str : PySem.W.kitOne K (.type "str") (.type T.nm) = some (match T with | .str => true | _ => false) := by cases T <;> exact kit_ty (by decide +kernel)
theorem kit_list : PySem.W.kitOne K (.type "list") (.type T.nm) = some (match T with | .list => true | _ => false) := by cases T <;> exact kit_ty (by decide +kernel)
theorem kit_dict : PySem.W.kitOne K (.type "dict") (.type T.nm) = some false := by cases T <;> exact kit_ty (by decide +kernel)
theorem kit_tuple : PySem.W.kitOne K (.type "tuple") (.type T.nm) = some (match T with | .tuple => true | _ => false) := by cases T <;> exact kit_ty (by decide +kernel)
theorem rp_isa {F : Addr → Prop} {H : Hp} {v : V} {d : Dt} {b : Bool} (h : Rp K F H v d) (e : isaB T d = some b) : ∃ t, TyX K H v t ∧ PySem.W.kitOne K t (.type T.nm) = some b := by
  cases h with
  | non => cases e; exact ⟨_, .base .non, kit_non⟩
  | bl x => cases e; exact ⟨_, .base (.bl x), kit_bl⟩
  | int x => cases e; exact ⟨_, .base (.int x), kit_int⟩
  | str x => cases e; exact ⟨_, .base (.str x), kit_str⟩
  | lst hp _ _ => cases e; exact ⟨_, .base (.lst hp), kit_list⟩
  | fz hp _ =>
    cases e
    rcases hp with ⟨o, hp⟩ | ⟨o, its, n, hp, hc, _⟩
    · exact ⟨_, .base (.frz hp), kit_list⟩
    · exact ⟨_, .kList hp hc, kit_list⟩
  | tup hp _ =>
    cases e
    rcases hp with (hp | ⟨o, hp⟩) | ⟨o, its, n, hp, hc, _⟩
    · exact ⟨_, .base (.tup hp), kit_tuple⟩
    · exact ⟨_, .fTuple hp, kit_tuple⟩
    · exact ⟨_, .kTuple hp hc, kit_tuple⟩
  | @dic _ _ es hp _ _ _ =>
    have e : (if exnL es = true then none else some false) = some b := e
    cases hx : exnL es with
    | true => rw [hx] at e; cases e
    | false => rw [hx] at e; cases e; exact ⟨_, .base (.dK hp), kit_dict⟩
  | exn _ _ _ => cases e
theorem se_isa (ha : SE K W Δ te (.v av fr) g) : SE K W Δ (tCB (rIsi K) (tCons te (tCons (tC (.ty T.nm)) tNil))) (.v true true) (gUn (hIsa T) g) := fun f ρ σ H Q R q => by
  refine ha f ρ σ H _ R ?_
  unfold gUn at q
  cases e1 : g ρ with
  | bad => rw [e1] at q; exact q
  | ex z => rw [e1] at q; exact q
  | ok d =>
    rw [e1, bnd_ok] at q
    intro v H1 s1 x1
    unfold hIsa at q
    cases e2 : isaB T d with
    | none => rw [e2] at q; exact q.elim
    | some b =>
      rw [e2] at q
      obtain ⟨t, h1, h2⟩ := rp_isa x1 e2
      exact ⟨v, .ty T.nm, t, .type T.nm, b, rfl, .ty _, h1, h2, q _ H1 s1 (.bl b)⟩
end
section
variable {X : Cx} {K : PySem.W.Frag} {W : Wt} {Δ Δn Δb Δc : List Kd} {a b e : Expr} {es : List Expr} {ta tb te : TE} {tA : TA} {g ga : Gd} {gA : List Dt → O (List Dt)} {av fr : Bool} {L : Lk} {pos : Pos} {st : Stmt}
theorem x_isa (T : Ty5) {x : Str} {p p2 : Pos} (hm : X.mg "isinstance" = none) (hm2 : X.mg x = none) (h : PD X K W Δ e te (.v av fr) g) (hv : bootBuiltins x = some (.type T.nm) := by decide +kernel) (hg2 : Gl X x := by rfl) (hn : x ≠ "__name__" := by decide) (hdb : (x == ("__debug__" : Str)) = false := by decide)
    (hg : Gl X "isinstance" := by rfl)
    (he : starEach [e, .Name x p2] X.env = (false, eval e X.env) :: starEach [.Name x p2] X.env := by rfl) (he2 : starEach [.Name x p2] X.env = (false, eval (.Name x p2) X.env) :: starEach [] X.env := by rfl) (hpl : (backTo pos (starEach [.Name x p2] X.env)).any (·.1) = false := by rfl) :
    PD X K W Δ (.Call (.Name "isinstance" p) [e, .Name x p2] [] pos) (tCB (rIsi K) (tCons te (tCons (tC (.ty T.nm)) tNil))) (.v true true) (gUn (hIsa T) g) :=
  ⟨pe_callB (by have q := call_isi (X := X); rw [h.hK] at q; exact q) hg hm (by decide +kernel) (pa_cons h.pe (pa_cons (pe_bltn hg2 hm2 hv rfl hn hdb) pa_nil he2) he) (by decide) (by decide) he hpl, h.hK, se_isa h.se⟩

/-! ### what is never reached -/
def gBad : Gs := fun _ => .bad
theorem z_never (hK : X.K = K := by rfl) : SD X K W L Δ Δn Δb Δc st tNever gBad := ⟨ps_never, hK, fun f ρ σ H E r q => q.elim⟩

/-! ### enumerate, reversed, zip -/
def lst1 : List Dt → Option (List Dt)
  | [.list es] => some es
  | _ => none
def lst2 : List Dt → Option (List Dt × List Dt)
  | [.list es, .list es2] => some (es, es2)
  | _ => none
theorem lst1_inv {ds es : List Dt} (h : lst1 ds = some es) : ds = [.list es] := by
  unfold lst1 at h
  split at h
  · cases h; rfl
  · cases h
theorem lst2_inv {ds : List Dt} {p : List Dt × List Dt} (h : lst2 ds = some p) : ds = [.list p.1, .list p.2] := by
  unfold lst2 at h
  split at h
  · cases h; rfl
  · cases h
def enumD (es : List Dt) : List Dt := es.zipIdx.map fun p => .tuple [.int (p.2 : Nat), p.1]
def zipD (es es2 : List Dt) : List Dt := (es.zip es2).map fun p => .tuple [p.1, p.2]
def gEnum (gA : List Dt → O (List Dt)) : List Dt → O (List Dt) := fun ρ => bnd (gA ρ) fun ds => match lst1 ds with
  | some es => .ok (enumD es)
  | none => .bad
def gRev (gA : List Dt → O (List Dt)) : List Dt → O (List Dt) := fun ρ => bnd (gA ρ) fun ds => match lst1 ds with
  | some es => .ok es.reverse
  | none => .bad
def gZip (gA : List Dt → O (List Dt)) : List Dt → O (List Dt) := fun ρ => bnd (gA ρ) fun ds => match lst2 ds with
  | some p => .ok (zipD p.1 p.2)
  | none => .bad
theorem sc_enum {c : Addr} {es : List Dt} : Sc K (Ite K c) none [.ref c] [.list es] (enumD es) where
  goes := fun i H hi ⟨_, F, r⟩ => by
    cases r with
    | cons h _ =>
      obtain ⟨b, xs, e, hs, r⟩ := h.sql
      cases e
      have hx : i < xs.length := by rw [r.length]; unfold enumD at hi; simpa using hi
      exact ⟨xs, xs[i], hs, List.getElem?_eq_getElem hx⟩
  stops := fun H ⟨_, F, r⟩ => by
    cases r with
    | cons h _ =>
      obtain ⟨b, xs, e, hs, r⟩ := h.sql
      cases e
      exact ⟨xs, hs, by rw [r.length]; unfold enumD; simp⟩
  yields := fun i H x H' hi _ y => by
    obtain ⟨T, z, e, nT, eH, y⟩ := y
    subst e eH
    refine ⟨same_upd nT, fun F r => ?_⟩
    cases r with
    | cons h _ =>
      obtain ⟨b, xs, e, hs, r⟩ := h.sql
      cases e
      obtain ⟨d, h1, h2⟩ := r.get (y xs hs)
      refine ⟨.tuple [.int (i : Nat), d], ?_, .tup (.inl (.inl upd_same)) (.cons (.int _) (.cons (h2.same (same_upd nT)) .nil))⟩
      unfold enumD
      rw [List.getElem?_map, List.getElem?_zipIdx, h1]
      simp
theorem sc_rev {c : Addr} {es : List Dt} {n : Nat} (hn : n = es.length) : Sc K (Itv K c n) none [.ref c] [.list es] es.reverse where
  goes := fun i H hi ⟨_, F, r⟩ => by
    cases r with
    | cons h _ =>
      obtain ⟨b, xs, e, hs, r⟩ := h.sql
      cases e
      rw [List.length_reverse] at hi
      have hx : n - 1 - i < xs.length := by rw [r.length]; omega
      exact ⟨by omega, xs, _, hs, List.getElem?_eq_getElem hx⟩
  stops := fun H _ => by rw [List.length_reverse]; exact Nat.le_of_eq hn
  yields := fun i H x H' hi _ y => by
    obtain ⟨e, y⟩ := y
    subst e
    refine ⟨Same.refl _, fun F r => ?_⟩
    cases r with
    | cons h _ =>
      obtain ⟨b, xs, e, hs, r⟩ := h.sql
      cases e
      obtain ⟨d, h1, h2⟩ := r.get (y xs hs)
      rw [List.length_reverse] at hi
      exact ⟨d, by rw [List.getElem?_reverse hi, ← hn]; exact h1, h2⟩
theorem sc_zip {c c2 : Addr} {es es2 : List Dt} : Sc K (Itz K c c2) none [.ref c, .ref c2] [.list es, .list es2] (zipD es es2) where
  goes := fun i H hi ⟨_, F, r⟩ => by
    cases r with
    | cons h r2 =>
      cases r2 with
      | cons h2 _ =>
        obtain ⟨b, xs, e, hs, r⟩ := h.sql
        cases e
        obtain ⟨b, xs2, e, hs2, r2⟩ := h2.sql
        cases e
        have hl : i < es.length ∧ i < es2.length := by unfold zipD at hi; rw [List.length_map, List.length_zip] at hi; omega
        exact ⟨xs, xs2, _, _, hs, hs2, List.getElem?_eq_getElem (by rw [r.length]; exact hl.1), List.getElem?_eq_getElem (by rw [r2.length]; exact hl.2)⟩
  stops := fun H ⟨_, F, r⟩ => by
    cases r with
    | cons h r2 =>
      cases r2 with
      | cons h2 _ =>
        obtain ⟨b, xs, e, hs, r⟩ := h.sql
        cases e
        obtain ⟨b, xs2, e, hs2, r2⟩ := h2.sql
        cases e
        refine ⟨xs, xs2, hs, hs2, ?_⟩
        unfold zipD
        rw [List.length_map, List.length_zip, r.length, r2.length]
        omega
  yields := fun i H x H' hi _ y => by
    obtain ⟨T, z, z2, e, nT, eH, y, y2⟩ := y
    subst e eH
    refine ⟨same_upd nT, fun F r => ?_⟩
    cases r with
    | cons h r2 =>
      cases r2 with
      | cons h2 _ =>
        obtain ⟨b, xs, e, hs, r⟩ := h.sql
        cases e
        obtain ⟨b, xs2, e, hs2, r2⟩ := h2.sql
        cases e
        obtain ⟨d, h1, h1'⟩ := r.get (y xs hs)
        obtain ⟨d2, h2, h2'⟩ := r2.get (y2 xs2 hs2)
        refine ⟨.tuple [d, d2], ?_, .tup (.inl (.inl upd_same)) (.cons (h1'.same (same_upd nT)) (.cons (h2'.same (same_upd nT)) .nil))⟩
        unfold zipD
        rw [List.getElem?_map, List.getElem?_zip_eq_some (z := (d, d2)) |>.mpr ⟨h1, h2⟩]
        rfl
theorem si_enum (h : SA K W Δ tA true fr gA) : SI K W Δ (iEnum K tA) false fr (gEnum gA) := fun f ρ σ H Rk R q => by
  refine h f ρ σ H _ R ?_
  unfold gEnum at q
  cases e1 : gA ρ with
  | bad => rw [e1] at q; exact q
  | ex z => rw [e1] at q; exact q
  | ok ds =>
    rw [e1, bnd_ok] at q
    intro vs H1 s1 x1
    cases er : lst1 ds with
    | none => rw [er] at q; exact q.elim
    | some es =>
      rw [er] at q
      have e := lst1_inv er
      subst e
      have x0 := x1
      cases x1 with
      | cons x1 xr =>
        cases xr
        obtain ⟨c, xs, rfl, hs, r⟩ := x1.sql
        exact ⟨c, xs, rfl, hs, q _ H1 none [.ref c] [.list es] s1 (fun _ => rfl) (fun _ e => nomatch e) x0 sc_enum⟩
theorem si_rev (h : SA K W Δ tA true fr gA) : SI K W Δ (iRev K tA) false fr (gRev gA) := fun f ρ σ H Rk R q => by
  refine h f ρ σ H _ R ?_
  unfold gRev at q
  cases e1 : gA ρ with
  | bad => rw [e1] at q; exact q
  | ex z => rw [e1] at q; exact q
  | ok ds =>
    rw [e1, bnd_ok] at q
    intro vs H1 s1 x1
    cases er : lst1 ds with
    | none => rw [er] at q; exact q.elim
    | some es =>
      rw [er] at q
      have e := lst1_inv er
      subst e
      have x0 := x1
      cases x1 with
      | cons x1 xr =>
        cases xr
        obtain ⟨c, xs, rfl, hs, r⟩ := x1.sql
        exact ⟨c, xs, rfl, hs, q _ H1 none [.ref c] [.list es] s1 (fun _ => rfl) (fun _ e => nomatch e) x0 (sc_rev r.length)⟩
theorem si_zip (h : SA K W Δ tA true fr gA) : SI K W Δ (iZip K tA) false fr (gZip gA) := fun f ρ σ H Rk R q => by
  refine h f ρ σ H _ R ?_
  unfold gZip at q
  cases e1 : gA ρ with
  | bad => rw [e1] at q; exact q
  | ex z => rw [e1] at q; exact q
  | ok ds =>
    rw [e1, bnd_ok] at q
    intro vs H1 s1 x1
    cases er : lst2 ds with
    | none => rw [er] at q; exact q.elim
    | some p =>
      rw [er] at q
      have e := lst2_inv er
      subst e
      have x0 := x1
      cases x1 with
      | cons x1 xr =>
        cases xr with
        | cons x2 xr =>
          cases xr
          obtain ⟨c, xs, rfl, hs, r⟩ := x1.sql
          obtain ⟨c2, xs2, rfl, hs2, r2⟩ := x2.sql
          exact ⟨c, c2, xs, xs2, rfl, hs, hs2, q _ H1 none [.ref c, .ref c2] [.list p.1, .list p.2] s1 (fun _ => rfl) (fun _ e => nomatch e) x0 sc_zip⟩
theorem i_enum {p tpos : Pos} {elts : List Expr} {kk : Nat} (hm : X.mg "enumerate" = none) (h : AD X K W Δ [a] tA true fr gA) (hg : Gl X "enumerate" := by rfl) (hs : starEach [a] X.env = [(false, eval a X.env)] := by rfl) : ID X K W Δ (.Tuple elts kk tpos) (.Call (.Name "enumerate" p) [a] [] pos) (iEnum K tA) false fr (gEnum gA) :=
  ⟨by have q := pi_enum (X := X) (tpos := tpos) (elts := elts) (kk := kk) (p := p) (pos := pos) hg hm h.pa hs; rw [h.hK] at q; exact q, h.hK, si_enum h.sa⟩
theorem i_rev {tg : Expr} {p : Pos} (hm : X.mg "reversed" = none) (h : AD X K W Δ [a] tA true fr gA) (hg : Gl X "reversed" := by rfl) (hs : starEach [a] X.env = [(false, eval a X.env)] := by rfl) : ID X K W Δ tg (.Call (.Name "reversed" p) [a] [] pos) (iRev K tA) false fr (gRev gA) :=
  ⟨by have q := pi_reversed (X := X) (tg := tg) (p := p) (pos := pos) hg hm h.pa hs; rw [h.hK] at q; exact q, h.hK, si_rev h.sa⟩
theorem i_zip {p tpos : Pos} {elts : List Expr} {kk : Nat} (hm : X.mg "zip" = none) (h : AD X K W Δ [a, b] tA true fr gA) (hg : Gl X "zip" := by rfl) (hs : starEach [a, b] X.env = (false, eval a X.env) :: starEach [b] X.env := by rfl) (hpl : (backTo pos (starEach [b] X.env)).any (·.1) = false := by rfl) : ID X K W Δ (.Tuple elts kk tpos) (.Call (.Name "zip" p) [a, b] [] pos) (iZip K tA) false fr (gZip gA) :=
  ⟨by have q := pi_zip (X := X) (tpos := tpos) (elts := elts) (kk := kk) (p := p) (pos := pos) hg hm h.pa hs hpl; rw [h.hK] at q; exact q, h.hK, si_zip h.sa⟩

/-! ### list(range), list(reversed) -/
def gLsI (gI : List Dt → O (List Dt)) : Gd := fun ρ => bnd (gI ρ) fun ds => if ds.length ≤ 100000 then .ok (.list ds) else .bad
theorem rpA_mapInt {F : Addr → Prop} {H : Hp} {α : Type} (f : α → Int) : ∀ l : List α, RpA K F H (l.map fun i => V.int (f i)) (l.map fun i => PyData.int (f i))
  | [] => .nil
  | x :: l => .cons (.int _) (rpA_mapInt f l)
theorem se_lrng1 (ha : SE K W Δ te (.v av fr) g) : SE K W Δ (tLstRg (tRg1 te)) (.new .l true) (gLsI (gRng1 (gCons g gNil))) := fun f ρ σ H Q R q => by
  refine ha f ρ σ H _ R ?_
  unfold gLsI gRng1 gCons gNil at q
  cases e1 : g ρ with
  | bad => rw [e1] at q; exact q
  | ex z => rw [e1] at q; exact q
  | ok d =>
    rw [e1, bnd_ok, bnd_ok, bnd_ok] at q
    intro v H1 s1 x1
    cases er : rng1 [d] with
    | none => rw [er] at q; exact q.elim
    | some p =>
      rw [er] at q
      unfold rng1 at er
      split at er
      · split at er
        · rename_i hj
          obtain ⟨e, e'⟩ := List.cons.inj ‹[d] = _›
          rename_i j h2
          cases er
          subst e
          rw [rpInt x1]
          simp only [bnd_ok] at q
          by_cases l : (rangeD 0 j).length ≤ 100000
          · rw [if_pos l] at q
            rw [rangeD_len] at l
            refine ⟨j, rfl, ⟨by omega, by omega, hj.1, hj.2, by omega⟩, fun p np => q p _ (s1.free np) (s1.trans (same_upd np)) ⟨_, _, rfl, upd_same, ?_⟩⟩
            exact rpA_mapInt _ _
          · rw [if_neg l] at q
            exact q.elim
        · cases er
      · cases er
theorem se_lrng2 (ha : SE K W Δ ta (.v av fr) ga) {av' fr' : Bool} (hb : SE K W Δ tb (.v av' fr') g) : SE K W Δ (tLstRg (tRg2 ta tb)) (.new .l true) (gLsI (gRng2 (gCons ga (gCons g gNil)))) := fun f ρ σ H Q R q => by
  refine ha f ρ σ H _ R ?_
  unfold gLsI gRng2 gCons gNil at q
  cases e1 : ga ρ with
  | bad => rw [e1] at q; exact q
  | ex z => rw [e1] at q; exact q
  | ok d =>
    rw [e1, bnd_ok] at q
    intro v H1 s1 x1
    refine hb f ρ σ H1 _ (R.mono s1) ?_
    cases e2 : g ρ with
    | bad => rw [e2] at q; exact q
    | ex z => rw [e2] at q; exact fun H' s => q H' (s1.trans s)
    | ok d2 =>
      rw [e2, bnd_ok, bnd_ok, bnd_ok, bnd_ok] at q
      intro v2 H2 s2 x2
      cases er : rng2 [d, d2] with
      | none => rw [er] at q; exact q.elim
      | some p =>
        rw [er] at q
        unfold rng2 at er
        split at er
        · split at er
          · rename_i hj
            obtain ⟨e, e'⟩ := List.cons.inj ‹[d, d2] = _›
            obtain ⟨e', _⟩ := List.cons.inj e'
            cases er
            subst e e'
            rw [rpInt x1, rpInt x2]
            simp only [bnd_ok] at q
            rename_i i j _ _
            by_cases l : (rangeD i j).length ≤ 100000
            · rw [if_pos l] at q
              rw [rangeD_len] at l
              refine ⟨i, j, rfl, rfl, ⟨hj.1, hj.2.1, hj.2.2.1, hj.2.2.2, by omega⟩, fun p np => q p _ ((s1.trans s2).free np) ((s1.trans s2).trans (same_upd np)) ⟨_, _, rfl, upd_same, ?_⟩⟩
              exact rpA_mapInt _ _
            · rw [if_neg l] at q
              exact q.elim
          · cases er
        · cases er
theorem se_lrev (ha : SE K W Δ te (.v true fr) g) : SE K W Δ (tLstRev K te) (.new .l fr) (gLsI (gRev (gCons g gNil))) := fun f ρ σ H Q R q => by
  refine ha f ρ σ H _ R ?_
  unfold gLsI gRev gCons gNil at q
  cases e1 : g ρ with
  | bad => rw [e1] at q; exact q
  | ex z => rw [e1] at q; exact q
  | ok d =>
    rw [e1, bnd_ok, bnd_ok, bnd_ok] at q
    intro v H1 s1 x1
    cases er : lst1 [d] with
    | none => rw [er] at q; exact q.elim
    | some es =>
      rw [er] at q
      have e := List.cons.inj (lst1_inv er)
      cases e.1
      simp only [bnd_ok] at q
      by_cases l : es.reverse.length ≤ 100000
      · rw [if_pos l] at q
        obtain ⟨c, xs, rfl, hs, r⟩ := x1.sql
        exact ⟨c, xs, rfl, hs, fun p np => q p _ (s1.free np) (s1.trans (same_upd np)) ⟨_, _, rfl, upd_same, r.reverse.mono (same_upd np) fun a y z => ⟨y, fun e => z (e ▸ np)⟩⟩⟩
      · rw [if_neg l] at q
        exact q.elim
theorem se_lrevO (ha : SE K W Δ te (.o fr) g) : SE K W Δ (tLstRev K te) (.new .l fr) (gLsI (gRev (gCons g gNil))) := fun f ρ σ H Q R q => by
  refine ha f ρ σ H _ R ?_
  unfold gLsI gRev gCons gNil at q
  cases e1 : g ρ with
  | bad => rw [e1] at q; exact q
  | ex z => rw [e1] at q; exact q
  | ok d =>
    rw [e1, bnd_ok, bnd_ok, bnd_ok] at q
    intro p H1 vs ds ed s1 hp gp x1
    subst ed
    simp only [bnd_ok, lst1] at q
    by_cases l : ds.reverse.length ≤ 100000
    · rw [if_pos l] at q
      exact ⟨p, vs, rfl, .inl (.inl hp), fun p np => q p _ (s1.free np) (s1.trans (same_upd np)) ⟨_, _, rfl, upd_same, x1.reverse.mono (same_upd np) fun a y z => ⟨y, fun e => z (e ▸ np)⟩⟩⟩
    · rw [if_neg l] at q
      exact q.elim
theorem x_lrng1 {p p2 pos2 : Pos} (hm : X.mg "list" = none) (hm2 : X.mg "range" = none) (h : PD X K W Δ a ta (.v av fr) ga) (hc : X.calm = true := by rfl) (hg : Gl X "list" := by rfl) (hg2 : Gl X "range" := by rfl)
    (na : starEach [a] X.env = (false, eval a X.env) :: starEach [] X.env := by rfl) (na2 : starEach [.Call (.Name "range" p2) [a] [] pos2] X.env = (false, eval (.Call (.Name "range" p2) [a] [] pos2) X.env) :: starEach [] X.env := by rfl) :
    PD X K W Δ (.Call (.Name "list" p) [.Call (.Name "range" p2) [a] [] pos2] [] pos) (tLstRg (tRg1 ta)) (.new .l true) (gLsI (gRng1 (gCons ga gNil))) := ⟨pe_listRg hc hg hm (prg_1 hg2 hm2 h.pe na) na2, h.hK, se_lrng1 h.se⟩
theorem x_lrng2 {av' fr' : Bool} {p p2 pos2 : Pos} (hm : X.mg "list" = none) (hm2 : X.mg "range" = none) (h : PD X K W Δ a ta (.v av fr) ga) (h' : PD X K W Δ b tb (.v av' fr') g) (hc : X.calm = true := by rfl) (hg : Gl X "list" := by rfl) (hg2 : Gl X "range" := by rfl)
    (na : starEach [a, b] X.env = (false, eval a X.env) :: starEach [b] X.env := by rfl) (nb : starEach [b] X.env = (false, eval b X.env) :: starEach [] X.env := by rfl) (hp : (backTo pos2 (starEach [b] X.env)).any (·.1) = false := by rfl)
    (na2 : starEach [.Call (.Name "range" p2) [a, b] [] pos2] X.env = (false, eval (.Call (.Name "range" p2) [a, b] [] pos2) X.env) :: starEach [] X.env := by rfl) :
    PD X K W Δ (.Call (.Name "list" p) [.Call (.Name "range" p2) [a, b] [] pos2] [] pos) (tLstRg (tRg2 ta tb)) (.new .l true) (gLsI (gRng2 (gCons ga (gCons g gNil)))) := ⟨pe_listRg hc hg hm (prg_2 hg2 hm2 h.pe h'.pe na nb hp) na2, h.hK, se_lrng2 h.se h'.se⟩
theorem x_lrev {p p2 pos2 : Pos} (hm : X.mg "list" = none) (hm2 : X.mg "reversed" = none) (h : PD X K W Δ a ta (.v true fr) ga) (hc : X.calm = true := by rfl) (hg : Gl X "list" := by rfl) (hg2 : Gl X "reversed" := by rfl)
    (na : starEach [a] X.env = (false, eval a X.env) :: starEach [] X.env := by rfl) (na2 : starEach [.Call (.Name "reversed" p2) [a] [] pos2] X.env = (false, eval (.Call (.Name "reversed" p2) [a] [] pos2) X.env) :: starEach [] X.env := by rfl) :
    PD X K W Δ (.Call (.Name "list" p) [.Call (.Name "reversed" p2) [a] [] pos2] [] pos) (tLstRev K ta) (.new .l fr) (gLsI (gRev (gCons ga gNil))) := ⟨by have q := pe_lstRev (X := X) (p := p) (p2 := p2) (pos := pos) (pos2 := pos2) hc hg hm hg2 hm2 h.pe na na2; rw [h.hK] at q; exact q, h.hK, se_lrev h.se⟩
theorem x_lrevO {p p2 pos2 : Pos} (hm : X.mg "list" = none) (hm2 : X.mg "reversed" = none) (h : PD X K W Δ a ta (.o fr) ga) (hc : X.calm = true := by rfl) (hg : Gl X "list" := by rfl) (hg2 : Gl X "reversed" := by rfl)
    (na : starEach [a] X.env = (false, eval a X.env) :: starEach [] X.env := by rfl) (na2 : starEach [.Call (.Name "reversed" p2) [a] [] pos2] X.env = (false, eval (.Call (.Name "reversed" p2) [a] [] pos2) X.env) :: starEach [] X.env := by rfl) :
    PD X K W Δ (.Call (.Name "list" p) [.Call (.Name "reversed" p2) [a] [] pos2] [] pos) (tLstRev K ta) (.new .l fr) (gLsI (gRev (gCons ga gNil))) := ⟨by have q := pe_lstRev (X := X) (p := p) (p2 := p2) (pos := pos) (pos2 := pos2) hc hg hm hg2 hm2 h.pe na na2; rw [h.hK] at q; exact q, h.hK, se_lrevO h.se⟩
end
/-! ### range(i, j, -1) -/
def rng3 : List Dt → Option (Int × Int)
  | [.int i, .int j, .int c] => if c = -1 ∧ -(2 ^ 62) ≤ i ∧ i < 2 ^ 62 ∧ -(2 ^ 62) ≤ j ∧ j < 2 ^ 62 then some (i, j) else none
  | _ => none
theorem rng3_inv {ds : List Dt} {p : Int × Int} (h : rng3 ds = some p) : ds = [.int p.1, .int p.2, .int (-1)] ∧ -(2 ^ 62) ≤ p.1 ∧ p.1 < 2 ^ 62 ∧ -(2 ^ 62) ≤ p.2 ∧ p.2 < 2 ^ 62 := by
  unfold rng3 at h
  split at h
  · split at h
    · rename_i c
      cases h
      obtain ⟨e, c⟩ := c
      subst e
      exact ⟨rfl, c⟩
    · cases h
  · cases h
def downD (i j : Int) : List Dt := (List.range (i - j).toNat).map fun (k : Nat) => .int (i - (k : Int))
def gRng3 (g : List Dt → O (List Dt)) : List Dt → O (List Dt) := fun ρ => bnd (g ρ) fun ds => match rng3 ds with
  | some p => .ok (downD p.1 p.2)
  | none => .bad
section
variable {K : PySem.W.Frag} {W : Wt} {Δ : List Kd}
theorem downD_len (i j : Int) : (downD i j).length = (i - j).toNat := by unfold downD; simp
theorem sc_down {i j : Int} : Sc K (Itc i (-1) (i - j).toNat) none [] [] (downD i j) where
  goes := fun k H hi' _ => by rw [downD_len] at hi'; exact hi'
  stops := fun H _ => by rw [downD_len]; exact Nat.le_refl _
  yields := fun k H x H' hi' _ y => by
    obtain ⟨e, y⟩ := y
    subst e y
    refine ⟨Same.refl _, fun F r => ⟨_, ?_, .int _⟩⟩
    rw [downD_len] at hi'
    unfold downD
    rw [List.getElem?_map, List.getElem?_range hi']
    have e : i - (k : Int) = i + (k : Nat) * (-1) := by omega
    rw [← e]
    rfl
theorem si_rng3 {tA : TA} {gA : List Dt → O (List Dt)} {av fr : Bool} (h : SA K W Δ tA av fr gA) : SI K W Δ (iRng3 tA) false true (gRng3 gA) := fun f ρ σ H Rk R q => by
  refine h f ρ σ H _ R ?_
  unfold gRng3 at q
  cases e1 : gA ρ with
  | bad => rw [e1] at q; exact q
  | ex z => rw [e1] at q; exact q
  | ok ds =>
    rw [e1, bnd_ok] at q
    intro vs H1 s1 x1
    cases er : rng3 ds with
    | none => rw [er] at q; exact q.elim
    | some p =>
      rw [er] at q
      obtain ⟨e, b1, b2, b3, b4⟩ := rng3_inv er
      subst e
      cases x1 with
      | cons x1 xr =>
        cases xr with
        | cons x2 xr =>
          cases xr with
          | cons x3 xr =>
            cases xr
            rw [rpInt x1, rpInt x2, rpInt x3]
            exact ⟨p.1, p.2, -1, (p.1 - p.2).toNat, rfl, RgC.neg b1 b2 b3 b4, q _ H1 none [] [] s1 (fun _ => rfl) (fun _ e => nomatch e) .nil sc_down⟩
theorem i_rng3 {X : Cx} {tg a b c : Expr} {tA : TA} {gA : List Dt → O (List Dt)} {av fr : Bool} {pos p : Pos} (hm : X.mg "range" = none) (h : AD X K W Δ [a, b, c] tA av fr gA) (hg : Gl X "range" := by rfl)
    (hs : starEach [a, b, c] X.env = (false, eval a X.env) :: starEach [b, c] X.env := by rfl) (hpl : (backTo pos (starEach [b, c] X.env)).any (·.1) = false := by rfl) : ID X K W Δ tg (.Call (.Name "range" p) [a, b, c] [] pos) (iRng3 tA) false true (gRng3 gA) := ⟨pi_range3 hg hm h.pa hs hpl, h.hK, si_rng3 h.sa⟩
end
/-! ### << -/
def hShl := hI cPow fun i j => i * 2 ^ j.toNat
theorem x_shl {X : Cx} {K : PySem.W.Frag} {W : Wt} {Δ : List Kd} {a b : Expr} {ta tb : TE} {ga gb : Gd} {av fr av' fr' : Bool} {pos : Pos} (ha : PD X K W Δ a ta (.v av fr) ga) (hb : PD X K W Δ b tb (.v av' fr') gb) : PD X K W Δ (.BinOp a .LShift b pos) (tOp (rI CPow fun i j => .int (i * 2 ^ j.toNat)) ta tb) (.v true true) (gOp hShl ga gb) := ⟨pe_op op_shl ha.pe hb.pe, ha.hK, se_op scl_I (osc_I fun _ _ => cPow_ok) ha.se hb.se⟩
/-! ### plain lemmas -/
theorem gChain_def (h h' : Dt → Dt → O Dt) (ga gb gc : Gd) (ρ : List Dt) : gChain h h' ga gb gc ρ = bnd (ga ρ) fun x => bnd (gb ρ) fun y => bnd (h x y) fun z => bnd (asB z) fun c => if c then bnd (gc ρ) fun w => h' y w else .ok (.bool false) := rfl
theorem hIsa_int (i : Int) : hIsa .int (.int i) = .ok (.bool true) := rfl
theorem hIsa_intb (i : Int) : hIsa .bool (.int i) = .ok (.bool false) := rfl
theorem hIsa_list (x : List Dt) : hIsa .list (.list x) = .ok (.bool true) := rfl
theorem hIsa_tuple (x : List Dt) : hIsa .tuple (.tuple x) = .ok (.bool true) := rfl
theorem gDrop_def (g : Gd) (ρ : List Dt) : gDrop g ρ = bnd (g ρ) fun _ => .ok (.nx ρ) := rfl
theorem fnN_nx {m : Nat} {g : Gs} {ds ρ : List Dt} (h : g (ds ++ List.replicate (m - ds.length) .none) = .ok (.nx ρ)) : fnN m g ds = .ok .none := by unfold fnN; rw [h]
theorem lsI_ok {gI : List Dt → O (List Dt)} {ρ ds : List Dt} (h : gI ρ = .ok ds) (hl : ds.length ≤ 100000) : gLsI gI ρ = .ok (.list ds) := by unfold gLsI; rw [h, bnd_ok, if_pos hl]
theorem rev_ok {gA : List Dt → O (List Dt)} {ρ es : List Dt} (h : gA ρ = .ok [.list es]) : gRev gA ρ = .ok es.reverse := by unfold gRev; rw [h]; rfl
theorem enum_ok {gA : List Dt → O (List Dt)} {ρ es : List Dt} (h : gA ρ = .ok [.list es]) : gEnum gA ρ = .ok (enumD es) := by unfold gEnum; rw [h]; rfl
theorem zip_ok {gA : List Dt → O (List Dt)} {ρ es fs : List Dt} (h : gA ρ = .ok [.list es, .list fs]) : gZip gA ρ = .ok (zipD es fs) := by unfold gZip; rw [h]; rfl
theorem rng3_ok {g : List Dt → O (List Dt)} {ρ : List Dt} {i j : Int} (h : g ρ = .ok [.int i, .int j, .int (-1)]) (h1 : -4611686018427387904 ≤ j) (h2 : j < 4611686018427387904) (h3 : -4611686018427387904 ≤ i) (h4 : i < 4611686018427387904) : gRng3 g ρ = .ok (downD i j) := by
  unfold gRng3
  rw [h, bnd_ok]
  unfold rng3
  simp only
  rw [if_pos ⟨trivial, by omega, by omega, by omega, by omega⟩]
theorem hAll_b (xs : List Bool) : hAll [.list (xs.map .bool)] = .ok (.bool (xs.all id)) := by
  unfold hAll
  simp only [allB_map]
theorem setI_ok {i : Nat} {ge gi : Gd} {ρ ds : List Dt} {d : Dt} {j : Int} (h1 : ge ρ = .ok d) (h2 : ρ[i]? = some (.list ds)) (h3 : gi ρ = .ok (.int j)) (j0 : 0 ≤ j) (j1 : j < ds.length) : gSetI i ge gi ρ = .ok (.nx (ρ.set i (.list (ds.set j.toNat d)))) := by
  unfold gSetI
  have e : ixN ds.length j = some j.toNat := by
    unfold ixN
    repeat (first | rw [if_pos (by omega)] | rw [if_neg (by omega)])
  rw [h1, bnd_ok, h2]
  simp only
  rw [h3, bnd_ok]
  simp only [e]
theorem enumD_map {α : Type} (f : α → Dt) (xs : List α) : enumD (xs.map f) = (xs.zipIdx.map fun p => .tuple [.int (p.2 : Nat), f p.1]) := by
  unfold enumD
  rw [List.zipIdx_map, List.map_map]
  rfl
theorem zipD_map {α β : Type} (f : α → Dt) (g : β → Dt) (xs : List α) (ys : List β) : zipD (xs.map f) (ys.map g) = ((xs.zip ys).map fun p => .tuple [f p.1, g p.2]) := by
  unfold zipD
  rw [List.zip_map, List.map_map]
  rfl
end Sim
end T_SimI

section T_SimJ
set_option Elab.async false
set_option linter.all false
set_option maxRecDepth 100000
/-! SimJ: dicts of one's own (keys ints or strs), xs[::-1], is of bools. -/
namespace Sim
open PySem PySem.Spec L2
open PyProof.Rows hiding St

/-! ### dicts as data -/
def isK : Key → Dt → Bool
  | .inl i, .int j => decide (j = i)
  | .inr x, .str y => decide (y = x)
  | _, _ => false
def keyOf : Dt → Option Key
  | .int i => some (.inl i)
  | .str x => some (.inr x)
  | _ => none
def dGet (es : List (Dt × Dt)) (k : Key) : Option Dt := (es.find? fun e => isK k e.1).map (·.2)
def dPut (es : List (Dt × Dt)) (k : Key) (v : Dt) : List (Dt × Dt) := if (es.any fun e => isK k e.1) = true then es.map (fun e => if isK k e.1 = true then (e.1, v) else e) else es ++ [(keyD k, v)]
def dDrop (es : List (Dt × Dt)) (k : Key) : List (Dt × Dt) := es.filter fun e => !isK k e.1
section
variable {K : PySem.W.Frag} {F F' : Addr → Prop} {H H' : Hp}
theorem isK_keyD (k k' : Key) : isK k (keyD k') = decide (k' = k) := by
  cases k <;> cases k' <;> simp [isK, keyD]
theorem kV_keyOf {v : V} {d : Dt} {k : Key} (x : Rp K F H v d) (e : keyOf d = some k) : v = kV k := by
  cases x <;> cases e <;> rfl
theorem KvA.length : ∀ {kvs : List (Key × V)} {es : List (Dt × Dt)}, KvA K F H kvs es → kvs.length = es.length
  | _, _, .nil => rfl
  | _, _, .cons _ r => by rw [List.length_cons, List.length_cons, r.length]
theorem KvA.get (k : Key) : ∀ {kvs : List (Key × V)} {es : List (Dt × Dt)}, KvA K F H kvs es → (valV kvs k = none ∧ dGet es k = none) ∨ ∃ v d, valV kvs k = some v ∧ dGet es k = some d ∧ Rp K F H v d
  | _, _, .nil => .inl ⟨rfl, rfl⟩
  | _, _, .cons (k := k') (v := v) (d := d) (kvs := kvs) (es := es) h r => by
    by_cases c : k' = k
    · refine .inr ⟨v, d, valV_pos c, ?_, h⟩
      unfold dGet
      rw [List.find?_cons_of_pos (by rw [isK_keyD]; simpa using c)]
      rfl
    · rw [valV_neg c]
      have e : dGet ((keyD k', d) :: es) k = dGet es k := by
        unfold dGet
        rw [List.find?_cons_of_neg (by rw [isK_keyD]; simpa using c)]
      rw [e]
      exact r.get k
theorem KvA.any (k : Key) : ∀ {kvs : List (Key × V)} {es : List (Dt × Dt)}, KvA K F H kvs es → (kvs.any fun kv => decide (kv.1 = k)) = es.any fun e => isK k e.1
  | _, _, .nil => rfl
  | _, _, .cons h r => by rw [List.any_cons, List.any_cons, r.any k, isK_keyD]
theorem KvA.snoc {k : Key} {v : V} {d : Dt} (x : Rp K F H v d) : ∀ {kvs : List (Key × V)} {es : List (Dt × Dt)}, KvA K F H kvs es → KvA K F H (kvs ++ [(k, v)]) (es ++ [(keyD k, d)])
  | _, _, .nil => .cons x .nil
  | _, _, .cons h r => .cons h (r.snoc x)
theorem KvA.over {k : Key} {v : V} {d : Dt} (x : Rp K F H v d) : ∀ {kvs : List (Key × V)} {es : List (Dt × Dt)}, KvA K F H kvs es → KvA K F H (kvs.map fun kv => if kv.1 = k then (kv.1, v) else kv) (es.map fun e => if isK k e.1 = true then (e.1, d) else e)
  | _, _, .nil => .nil
  | _, _, .cons (k := k') h r => by
    rw [List.map_cons, List.map_cons, isK_keyD]
    by_cases c : k' = k
    · rw [if_pos c, if_pos (by simpa using c)]
      exact .cons x (r.over x)
    · rw [if_neg c, if_neg (by simpa using c)]
      exact .cons h (r.over x)
theorem KvA.put {k : Key} {v : V} {d : Dt} (x : Rp K F H v d) {kvs : List (Key × V)} {es : List (Dt × Dt)} (h : KvA K F H kvs es) : KvA K F H (putK kvs k v) (dPut es k d) := by
  unfold putK dPut
  rw [h.any k]
  split
  · exact h.over x
  · exact h.snoc x
theorem KvA.drop (k : Key) : ∀ {kvs : List (Key × V)} {es : List (Dt × Dt)}, KvA K F H kvs es → KvA K F H (dropK kvs k) (dDrop es k)
  | _, _, .nil => .nil
  | _, _, .cons (k := k') h r => by
    unfold dropK dDrop
    rw [List.filter_cons, List.filter_cons, isK_keyD]
    by_cases c : k' = k
    · rw [if_neg (by simpa using c), if_neg (by simpa using c)]
      exact r.drop k
    · rw [if_pos (by simpa using c), if_pos (by simpa using c)]
      exact .cons h (r.drop k)
end

/-! ### closures -/
def gDNew : Gd := fun _ => .ok (.dict [])
def dAt (ρ : List Dt) (i : Nat) : Option (List (Dt × Dt)) := match ρ[i]? with
  | some (.dict es) => some es
  | _ => none
def gDGet (i : Nat) (gk : Gd) : Gd := fun ρ => match dAt ρ i with
  | some es => bnd (gk ρ) fun kd => (match keyOf kd with
    | some k => (match dGet es k with
      | some d => .ok d
      | none => .bad)
    | none => .bad)
  | none => .bad
def gDIn (neg : Bool) (i : Nat) (gk : Gd) : Gd := fun ρ => bnd (gk ρ) fun kd => match dAt ρ i with
  | some es => (match keyOf kd with
    | some k => .ok (.bool (if neg then !(dGet es k).isSome else (dGet es k).isSome))
    | none => .bad)
  | none => .bad
def gDPut (i : Nat) (gv gk : Gd) : Gs := fun ρ => bnd (gv ρ) fun v => match dAt ρ i with
  | some es => bnd (gk ρ) fun kd => (match keyOf kd with
    | some k => if es.length < 100000 then .ok (.nx (ρ.set i (.dict (dPut es k v)))) else .bad
    | none => .bad)
  | none => .bad
theorem dAt_inv {ρ : List Dt} {i : Nat} {es : List (Dt × Dt)} (h : dAt ρ i = some es) : ρ[i]? = some (.dict es) := by
  unfold dAt at h
  split at h
  · cases h; assumption
  · cases h

section
variable {K : PySem.W.Frag} {W : Wt} {Δ Δb Δc : List Kd} {te ti : TE} {g ge gk : Gd} {fr fr' av : Bool} {L : Lk} {i : Nat}
theorem dk_own {f : Fm} {ρ : List Dt} {σ : L2.St} {H : Hp} {es : List (Dt × Dt)} (r : R K f Δ ρ σ H) (hk : Δ[i]? = some (.own .dk fr)) (h : dAt ρ i = some es) :
    ∃ p kvs, σ[i]? = some (some (V.ref p)) ∧ f.H0 p = none ∧ H p = some (.dK kvs) ∧ KvA K (FM f Δ σ true fr) H kvs es := by
  obtain ⟨p, d, g1, g2, g3, kvs, es', ed, g4, g5⟩ := r.ow i .dk fr hk
  rw [dAt_inv h] at g2
  cases g2
  cases ed
  exact ⟨p, kvs, g1, g3, g4, g5⟩
theorem se_dnew : SE K W Δ tDNewK (.new .dk true) gDNew := fun f ρ σ H Q r q => fun p np => q p _ np (same_upd np) ⟨[], [], rfl, upd_same, .nil⟩
theorem se_dget (hk : Δ[i]? = some (.own .dk fr)) (h : SE K W Δ ti (.v av fr') gk) : SE K W Δ (tDGet (tVar i) ti) (.v true fr) (gDGet i gk) := fun f ρ σ H Q r q => by
  unfold gDGet at q
  cases ed : dAt ρ i with
  | none => rw [ed] at q; exact q.elim
  | some es =>
    rw [ed] at q
    obtain ⟨p, kvs, g1, g3, g4, g5⟩ := dk_own r hk ed
    refine ⟨_, g1, h f ρ σ H _ r ?_⟩
    simp only at q
    cases e2 : gk ρ with
    | bad => rw [e2] at q; exact q
    | ex z => rw [e2] at q; exact q
    | ok kd =>
      rw [e2, bnd_ok] at q
      intro kv H1 s1 xk
      cases ek : keyOf kd with
      | none => rw [ek] at q; exact q.elim
      | some k =>
        rw [ek] at q
        simp only at q
        rw [kV_keyOf xk ek]
        rcases g5.get k with ⟨_, e⟩ | ⟨v, d, e1, e, x⟩
        · rw [e] at q; exact q.elim
        · rw [e] at q
          refine ⟨p, v, rfl, ?_, q v H1 s1 (x.same s1)⟩
          rw [← e1]
          exact DGet.k (s1 _ _ g4)
theorem se_din (neg : Bool) (hk : Δ[i]? = some (.own .dk fr)) (h : SE K W Δ ti (.v av fr') gk) : SE K W Δ (if neg then tDNotIn ti (tVar i) else tDIn ti (tVar i)) (.v true true) (gDIn neg i gk) := fun f ρ σ H Q r q => by
  have key : ti σ H (fun y H1 => tVar i σ H1 fun x H2 => ∃ a o, x = .ref a ∧ DGet H2 a y o ∧ Q (.bl (if neg then !o.isSome else o.isSome)) H2) := by
    refine h f ρ σ H _ r ?_
    unfold gDIn at q
    cases e2 : gk ρ with
    | bad => rw [e2] at q; exact q
    | ex z => rw [e2] at q; exact q
    | ok kd =>
      rw [e2, bnd_ok] at q
      intro kv H1 s1 xk
      cases ed : dAt ρ i with
      | none => rw [ed] at q; exact q.elim
      | some es =>
        rw [ed] at q
        simp only at q
        obtain ⟨p, kvs, g1, g3, g4, g5⟩ := dk_own r hk ed
        cases ek : keyOf kd with
        | none => rw [ek] at q; exact q.elim
        | some k =>
          rw [ek] at q
          simp only at q
          rw [kV_keyOf xk ek]
          refine ⟨_, g1, p, valV kvs k, rfl, DGet.k (s1 _ _ g4), ?_⟩
          have eq : (valV kvs k).isSome = (dGet es k).isSome := by
            rcases g5.get k with ⟨e1, e⟩ | ⟨v, d, e1, e, x⟩ <;> rw [e1, e] <;> rfl
          rw [eq]
          exact q _ H1 s1 (.bl _)
  cases neg with
  | true => exact key
  | false => exact key
theorem s_dput (hk : Δ[i]? = some (.own .dk fr)) (h : SE K W Δ te (.v true fr') ge) (h2 : SE K W Δ ti (.v av av') gk) : SS K W L Δ (Δ.set i (.own .dk (fr && fr'))) Δb Δc (sDPut (tVar i) ti te) (gDPut i ge gk) := fun f ρ σ H E r q => h f ρ σ H _ r <| by
  unfold gDPut at q
  cases e : ge ρ with
  | bad => rw [e] at q; exact q
  | ex z => rw [e] at q; exact fun H' s => q σ H' (r.ext.trans s)
  | ok d =>
    rw [e, bnd_ok] at q
    cases ed : dAt ρ i with
    | none => rw [ed] at q; exact q.elim
    | some es =>
      rw [ed] at q
      simp only at q
      obtain ⟨p, kvs, g1, g3, g4, g5⟩ := dk_own r hk ed
      intro v H1 s x
      refine ⟨_, g1, h2 f ρ σ H1 _ (r.mono s) ?_⟩
      cases e2 : gk ρ with
      | bad => rw [e2] at q; exact q
      | ex z => rw [e2] at q; exact fun H' s2 => q σ H' ((r.ext.trans s).trans s2)
      | ok kd =>
        rw [e2, bnd_ok] at q
        intro kv H2 s2 xk
        cases ek : keyOf kd with
        | none => rw [ek] at q; exact q.elim
        | some k =>
          rw [ek] at q
          simp only at q
          by_cases hl : es.length < 100000
          · rw [if_pos hl] at q
            rw [kV_keyOf xk ek]
            have s12 := s.trans s2
            have hp := s12 _ _ g4
            refine ⟨p, _, rfl, DPut.k hp (by rw [g5.length]; exact Nat.lt_of_lt_of_le hl (by decide)), q σ _ ?_⟩
            refine (r.mono s12).updOwn hk g1 (c' := .dk) (show Mutb (.dK _) from trivial) ⟨_, _, rfl, upd_same, ?_⟩
            have nf : ∀ {fr : Bool} (a : Addr), FM f Δ σ true fr a → a ≠ p := fun a fa z => (fa.1 rfl).1 (z ▸ ⟨i, .dk, _, hk, g1⟩)
            refine KvA.put ((Rp.updM hp trivial (fun a fa => nf a fa) (x.same s2)).weak fun a y => y.weak id fun h => (Bool.and_eq_true_iff.mp h).2) ?_
            exact g5.map fun v d z => (Rp.updM hp trivial (fun a fa => nf a fa) (z.same s12)).weak fun a y => y.weak id fun h => (Bool.and_eq_true_iff.mp h).1
          · rw [if_neg hl] at q
            exact q.elim
def gDPop (i : Nat) (gk : Gd) (hh : Dt → List Dt → O (List Dt)) : Gs := fun ρ => match dAt ρ i with
  | some es => bnd (gk ρ) fun kd => (match keyOf kd with
    | some k => (match dGet es k with
      | some d => (match hh d (ρ.set i (.dict (dDrop es k))) with
        | .ok ρ' => .ok (.nx ρ')
        | _ => .bad)
      | none => .bad)
    | none => .bad)
  | none => .bad
theorem set_self {α : Type} {l : List α} {i : Nat} {a : α} (h : l[i]? = some a) : l.set i a = l := by
  apply List.ext_getElem?
  intro j
  by_cases c : i = j
  · subst c
    rw [List.getElem?_set_self (List.getElem?_eq_some_iff.mp h).1, h]
  · rw [List.getElem?_set_ne c]
theorem s_dpop {gg : TG} {sl : List Nat} {n : Nat} {hh : Dt → List Dt → O (List Dt)} {TK : Bool → List Kd → List Kd} (hn : Δ.length = n) (hk : Δ[i]? = some (.own .dk fr)) (h : SE K W Δ ti (.v av fr') gk) (hg : GJ K n gg sl hh TK) :
    SS K W L Δ (TK fr Δ) Δb Δc (tAsg (tDPop1 (tVar i) ti) gg) (gDPop i gk hh) := fun f ρ σ H E r q => by
  unfold gDPop at q
  cases ed : dAt ρ i with
  | none => rw [ed] at q; exact q.elim
  | some es =>
    rw [ed] at q
    simp only at q
    obtain ⟨p, kvs, g1, g3, g4, g5⟩ := dk_own r hk ed
    refine ⟨_, g1, p, rfl, .inl ⟨kvs, .inl g4⟩, h f ρ σ H _ r ?_⟩
    cases e2 : gk ρ with
    | bad => rw [e2] at q; exact q
    | ex z => rw [e2] at q; exact fun H' s2 => q σ H' (r.ext.trans s2)
    | ok kd =>
      rw [e2, bnd_ok] at q
      intro kv H1 s1 xk
      cases ek : keyOf kd with
      | none => rw [ek] at q; exact q.elim
      | some k =>
        rw [ek] at q
        simp only at q
        rcases g5.get k with ⟨_, e⟩ | ⟨v, d, e1, e, x⟩
        · rw [e] at q; exact q.elim
        · rw [e] at q
          simp only at q
          have hp := s1 _ _ g4
          refine ⟨kvs, k, v, hp, kV_keyOf xk ek, e1, ?_⟩
          have nf : ∀ {fr : Bool} (a : Addr), FM f Δ σ true fr a → a ≠ p := fun a fa z => (fa.1 rfl).1 (z ▸ ⟨i, .dk, _, hk, g1⟩)
          have r2 := (r.mono s1).updOwn hk g1 (c' := .dk) (fr' := fr) (o' := .dK (dropK kvs k)) (show Mutb (.dK _) from trivial) ⟨_, _, rfl, upd_same, (g5.map fun v d z => Rp.updM (o' := .dK (dropK kvs k)) hp trivial (fun a fa => nf a fa) (z.same s1)).drop k⟩
          rw [set_self hk] at r2
          refine hg f Δ _ σ _ v d fr _ hn r2 (Rp.updM hp trivial (fun a fa => nf a fa) (x.same s1)) ?_
          cases e3 : hh d (ρ.set i (.dict (dDrop es k))) with
          | bad => rw [e3] at q; exact q.elim
          | ex z => rw [e3] at q; exact q.elim
          | ok ρ' =>
            rw [e3] at q
            exact fun σ' t => q σ' _ t.r
end
/-! ### rules for a text -/
section
variable {X : Cx} {K : PySem.W.Frag} {W : Wt} {Δ Δb Δc : List Kd} {a b e tg : Expr} {te ti : TE} {g ge gk : Gd} {fr fr' av av' : Bool} {L : Lk} {pos p pos' : Pos} {x : Str} {m : Nat}
theorem x_dnew (hK : X.K = K := by rfl) : PD X K W Δ (.Dict [] [] pos) tDNewK (.new .dk true) gDNew := ⟨pe_dnewK, hK, se_dnew⟩
theorem x_dget (i : Nat) (hr : Room m X.A) (h : PD X K W Δ e te (.v av fr') g) (hk : Δ[i]? = some (.own .dk fr) := by rfl) (hv : Vis X.env.scope x := by first | exact Or.inl rfl | exact Or.inr (Or.inl rfl) | exact Or.inr (Or.inr rfl)) (hN : X.N[i]? = some x := by rfl) (hd : (x == ("__debug__" : Str)) = false := by decide) (hcd : (x == ("__classdict__" : Str)) = false := by decide) (hs : NoSl e := by exact fun _ _ => rfl) :
    PD X K W Δ (.Subscript (.Name x p) e pos) (tDGet (tVar i) te) (.v true fr) (gDGet i g) := ⟨pe_dget (by have := hr.un; omega) (pe_var hN hv hd hcd) h.pe hs, h.hK, se_dget hk h.se⟩
theorem x_din (i : Nat) (hr : Room m X.A) (h : PD X K W Δ e te (.v av fr') g) (hk : Δ[i]? = some (.own .dk fr) := by rfl) (hv : Vis X.env.scope x := by first | exact Or.inl rfl | exact Or.inr (Or.inl rfl) | exact Or.inr (Or.inr rfl)) (hN : X.N[i]? = some x := by rfl) (hd : (x == ("__debug__" : Str)) = false := by decide) (hcd : (x == ("__classdict__" : Str)) = false := by decide) (hm : behindInMarks .In (.Name x p) = false := by rfl) :
    PD X K W Δ (.Compare e [.In] [.Name x p] pos) (tDIn te (tVar i)) (.v true true) (gDIn false i g) := ⟨pe_cmp (pc_din (by have := hr.un; omega) h.pe (pe_var hN hv hd hcd)) hm, h.hK, se_din false hk h.se⟩
theorem x_dnin (i : Nat) (hr : Room m X.A) (h : PD X K W Δ e te (.v av fr') g) (hk : Δ[i]? = some (.own .dk fr) := by rfl) (hv : Vis X.env.scope x := by first | exact Or.inl rfl | exact Or.inr (Or.inl rfl) | exact Or.inr (Or.inr rfl)) (hN : X.N[i]? = some x := by rfl) (hd : (x == ("__debug__" : Str)) = false := by decide) (hcd : (x == ("__classdict__" : Str)) = false := by decide) (hm : behindInMarks .NotIn (.Name x p) = false := by rfl) :
    PD X K W Δ (.Compare e [.NotIn] [.Name x p] pos) (tDNotIn te (tVar i)) (.v true true) (gDIn true i g) := ⟨pe_cmp (pc_dnotin (by have := hr.un; omega) h.pe (pe_var hN hv hd hcd)) hm, h.hK, se_din true hk h.se⟩
theorem c_din (i : Nat) (hr : Room m X.A) (h : PD X K W Δ e te (.v av fr') g) (hk : Δ[i]? = some (.own .dk fr) := by rfl) (hv : Vis X.env.scope x := by first | exact Or.inl rfl | exact Or.inr (Or.inl rfl) | exact Or.inr (Or.inr rfl)) (hN : X.N[i]? = some x := by rfl) (hd : (x == ("__debug__" : Str)) = false := by decide) (hcd : (x == ("__classdict__" : Str)) = false := by decide) (hm : behindInMarks .In (.Name x p) = false := by rfl) :
    TD X K W Δ (.Compare e [.In] [.Name x p] pos) (tB (tDIn te (tVar i))) (gTest (gDIn false i g)) := ⟨pt_cmp (pc_din (by have := hr.un; omega) h.pe (pe_var hN hv hd hcd)) hm, h.hK, st_B (se_din false hk h.se)⟩
theorem c_dnin (i : Nat) (hr : Room m X.A) (h : PD X K W Δ e te (.v av fr') g) (hk : Δ[i]? = some (.own .dk fr) := by rfl) (hv : Vis X.env.scope x := by first | exact Or.inl rfl | exact Or.inr (Or.inl rfl) | exact Or.inr (Or.inr rfl)) (hN : X.N[i]? = some x := by rfl) (hd : (x == ("__debug__" : Str)) = false := by decide) (hcd : (x == ("__classdict__" : Str)) = false := by decide) (hm : behindInMarks .NotIn (.Name x p) = false := by rfl) :
    TD X K W Δ (.Compare e [.NotIn] [.Name x p] pos) (tB (tDNotIn te (tVar i))) (gTest (gDIn true i g)) := ⟨pt_cmp (pc_dnotin (by have := hr.un; omega) h.pe (pe_var hN hv hd hcd)) hm, h.hK, st_B (se_din true hk h.se)⟩
theorem z_dput (i : Nat) (hr : Room m X.A) (h : PD X K W Δ e te (.v true fr') ge) (h2 : PD X K W Δ b ti (.v av av') gk) (hk : Δ[i]? = some (.own .dk fr) := by rfl) (hv : Vis X.env.scope x := by first | exact Or.inl rfl | exact Or.inr (Or.inl rfl) | exact Or.inr (Or.inr rfl)) (hN : X.N[i]? = some x := by rfl) (hd : (x == ("__debug__" : Str)) = false := by decide) (hcd : (x == ("__classdict__" : Str)) = false := by decide) (hs : swapsWith e (some (.Subscript (.Name x p) b pos')) pos.line X.env = pure false := by rfl) :
    SD X K W L Δ (Δ.set i (.own .dk (fr && fr'))) Δb Δc (.Assign [.Subscript (.Name x p) b pos'] e pos) (sDPut (tVar i) ti te) (gDPut i ge gk) := ⟨ps_dput (by have := hr.un; omega) (pe_var hN hv hd hcd) h2.pe h.pe hs, h.hK, s_dput hk h.se h2.se⟩
theorem z_dpop (i : Nat) {n : Nat} {gg : TG} {sl : List Nat} {hh : Dt → List Dt → O (List Dt)} {TK : Bool → List Kd → List Kd} {apos cpos : Pos} (h : PD X K W Δ e ti (.v av fr') gk) (hg : GD X K n tg gg sl hh TK) (hk : Δ[i]? = some (.own .dk fr) := by rfl) (hv : Vis X.env.scope x := by first | exact Or.inl rfl | exact Or.inr (Or.inl rfl) | exact Or.inr (Or.inr rfl)) (hN : X.N[i]? = some x := by rfl) (hd : (x == ("__debug__" : Str)) = false := by decide) (hcd : (x == ("__classdict__" : Str)) = false := by decide) (hn : Δ.length = n := by rfl)
    (m1 : attributeBase (.Name x p) "pop" X.env (eval (.Name x p) X.env) = eval (.Name x p) X.env := by rfl)
    (m2 : ((backTo cpos (starEach [e] X.env)).all (fun x => !x.1) && (backToKw cpos (keywordEach [] X.env)).all (fun x => x.1.isSome) && decide (([e] : List Expr).length + ([] : List Keyword).length + (if ([] : List Keyword).isEmpty then 0 else 1) < 30)) = true := by rfl)
    (m3 : (apos.endLine == cpos.line) = true := by rfl) (m4 : backTo cpos (starEach [e] X.env) = [(false, eval e X.env)] := by rfl)
    (hs : swapsWithSole [tg] (.Call (.Attribute (.Name x p) "pop" apos) [e] [] cpos) pos.line X.env = pure false := by rfl) (hw : swappedStores [tg] (.Call (.Attribute (.Name x p) "pop" apos) [e] [] cpos) X.env = pure none := by rfl) (h1 : (assignEach [tg] X.env).map (·.2) = [assign tg X.env] := by rfl) :
    SD X K W L Δ (TK fr Δ) Δb Δc (.Assign [tg] (.Call (.Attribute (.Name x p) "pop" apos) [e] [] cpos) pos) (tAsg (tDPop1 (tVar i) ti) gg) (gDPop i gk hh) :=
  ⟨ps_asg (pe_dpop1 (pe_var hN hv hd hcd) h.pe ⟨m1, m2, m3, m4⟩) hg.pg hs hw h1, h.hK, s_dpop hn hk h.se hg.gj⟩

/-! ### xs[::-1] -/
def hRevL : Dt → O Dt := fun d => match d with
  | .list ds => .ok (.list ds.reverse)
  | _ => .bad
theorem se_revL (ha : SE K W Δ te (.v true fr) g) : SE K W Δ (tRevL K te) (.new .l fr) (gUn hRevL g) := fun f ρ σ H Q R q => by
  refine ha f ρ σ H _ R ?_
  unfold gUn at q
  cases e1 : g ρ with
  | bad => rw [e1] at q; exact q
  | ex z => rw [e1] at q; exact q
  | ok d =>
    rw [e1, bnd_ok] at q
    intro v H1 s1 x1
    cases d with
    | list es =>
      obtain ⟨c, xs, rfl, hs, r⟩ := x1.sql
      exact ⟨c, xs, rfl, hs, fun p np => q p _ (s1.free np) (s1.trans (same_upd np)) ⟨_, _, rfl, upd_same, r.reverse.mono (same_upd np) fun a y z => ⟨y, fun e => z (e ▸ np)⟩⟩⟩
    | _ => exact q.elim
theorem se_revLO (ha : SE K W Δ te (.o fr) g) : SE K W Δ (tRevL K te) (.new .l fr) (gUn hRevL g) := fun f ρ σ H Q R q => by
  refine ha f ρ σ H _ R ?_
  unfold gUn at q
  cases e1 : g ρ with
  | bad => rw [e1] at q; exact q
  | ex z => rw [e1] at q; exact q
  | ok d =>
    rw [e1, bnd_ok] at q
    intro p H1 vs ds ed s1 hp gp x1
    subst ed
    exact ⟨p, vs, rfl, .inl (.inl hp), fun p np => q p _ (s1.free np) (s1.trans (same_upd np)) ⟨_, _, rfl, upd_same, x1.reverse.mono (same_upd np) fun a y z => ⟨y, fun e => z (e ▸ np)⟩⟩⟩
theorem x_revL {k : Nat} {p1 p2 p3 : Pos} (h : PD X K W Δ e te (.v true fr) g) : PD X K W Δ (.Subscript e (.Slice none none (some (.UnaryOp .USub (.Constant (.int 1) k p1) p2)) p3) pos) (tRevL K te) (.new .l fr) (gUn hRevL g) := ⟨by have q := pe_revL (X := X) (k := k) (p1 := p1) (p2 := p2) (p3 := p3) (pos := pos) h.pe; rw [h.hK] at q; exact q, h.hK, se_revL h.se⟩
theorem x_revLO {k : Nat} {p1 p2 p3 : Pos} (h : PD X K W Δ e te (.o fr) g) : PD X K W Δ (.Subscript e (.Slice none none (some (.UnaryOp .USub (.Constant (.int 1) k p1) p2)) p3) pos) (tRevL K te) (.new .l fr) (gUn hRevL g) := ⟨by have q := pe_revL (X := X) (k := k) (p1 := p1) (p2 := p2) (p3 := p3) (pos := pos) h.pe; rw [h.hK] at q; exact q, h.hK, se_revLO h.se⟩

/-! ### is True, is not True -/
def hIsB : Dt → Dt → O Dt := fun d e => match d, e with
  | .bool a, .bool b => .ok (.bool (decide (a = b)))
  | _, _ => .bad
def hNotB : Dt → Dt → O Dt := fun d e => match d, e with
  | .bool a, .bool b => .ok (.bool (!decide (a = b)))
  | _, _ => .bad
theorem scl_isB : Scl2 hIsB := fun d e => by cases d <;> cases e <;> first | exact .inr rfl | exact .inl ⟨_, rfl, rfl⟩
theorem scl_notB : Scl2 hNotB := fun d e => by cases d <;> cases e <;> first | exact .inr rfl | exact .inl ⟨_, rfl, rfl⟩
theorem osc_isB : OSc K rIsB hIsB := fun H x y d e Q hx hy h => by
  cases hx <;> cases hy <;> first | exact h.elim | exact ⟨_, _, rfl, rfl, h.2 _ (.bl _)⟩
theorem osc_notB : OSc K rNotB hNotB := fun H x y d e Q hx hy h => by
  cases hx <;> cases hy <;> first | exact h.elim | exact ⟨_, _, rfl, rfl, h.2 _ (.bl _)⟩
theorem or_isB : OR X K .Is rIsB hIsB := ⟨op_isBl, scl_isB, osc_isB⟩
theorem or_notB : OR X K .IsNot rNotB hNotB := ⟨op_notBl, scl_notB, osc_notB⟩
end
/-! ### len(set(ints)) -/
def ddp (ns : List Int) : List Int := firstMet (fun i => ns.getD i 0) ns.length
theorem firstMet_le (val : Nat → Int) : ∀ i, (firstMet val i).length ≤ i
  | 0 => Nat.le_refl _
  | i + 1 => by
    rw [firstMet_succ]
    have := firstMet_le val i
    unfold step_dedup
    split
    · omega
    · rw [List.length_append, List.length_singleton]; omega
def tLenSetG (K : PySem.W.Frag) (ta : TE) : TE := fun σ H Q => ta σ H fun x H1 => ∃ (l : Addr) (ns : List Int), x = V.ref l ∧ SqL K H1 l (ns.map V.int) ∧ ns.length < 64 ∧ Q (.int (ddp ns).length) H1
def hLenSet : Dt → O Dt := fun d => match d with
  | .list xs => match allI xs with
    | some ns => if ns.length < 64 then .ok (.int (ddp ns).length) else .bad
    | none => .bad
  | _ => .bad
section
variable {X : Cx} {K : PySem.W.Frag} {W : Wt} {Δ : List Kd} {a : Expr} {ta te : TE} {g : Gd} {av fr : Bool} {p p2 q pos : Pos}
theorem pe_lenSetG (hc : X.calm = true) (hg : Gl X "len") (hm : X.mg "len" = none) (hg2 : Gl X "set") (hm2 : X.mg "set" = none) (ha : PE X a ta)
    (na : starEach [a] X.env = (false, eval a X.env) :: starEach [] X.env := by rfl) : PE X (.Call (.Name "len" p) [.Call (.Name "set" p2) [a] [] q] [] pos) (tLenSetG X.K ta) := by
  refine ⟨fun pins s σ H Q I h => ?_⟩
  refine Call_ (ld_blt I hg hm PySem.boot_len ?_)
  refine PyProof.Rows.callWith_builtin1 (PyProof.Rows.args_cons ?_ rfl) rfl rfl
  refine Call_ (ld_blt I hg2 hm2 PyProof.Rows.boot_set ?_)
  refine PyProof.Rows.callWith_type1 (PyProof.Rows.args_cons (thn (ha.run pins s σ H _ I h) fun v s1 ⟨x, H1, I1, r1, q1⟩ => PyProof.Rows.args_nil ?_) na) na rfl
  obtain ⟨l, ns, rfl, hq, h1, q1⟩ := q1
  cases r1
  obtain ⟨its, r, pl, hz⟩ := I1.list hq
  have hl : its.toArray.size = ns.length := by rw [List.size_toArray, ← r.length, List.length_map]
  refine call_set_list (I1.ok.hd hc) pl.isList (ns := ns) (by simpa using r.ints) (by unfold scanBound; omega) fun h' tk hS hk => ?_
  rw [hl] at hS
  have hd := firstMet_le (fun i => ns.getD i 0) ns.length
  refine PyProof.Rows.args_nil ?_
  obtain ⟨o, es, ep, t, ho, hex, hd', _, _, _, hf, hn⟩ := hS
  have I2 : Inv X pins σ H1 { s1 with heap := h', toks := tk } := I1.kept fun b o e => hk b o (Heap.lt_size e) e
  refine call_len_set ho hex hd' hf (by rw [hn] <;> omega) ⟨.int (ddp ns).length, H1, I2.tok _, ⟨_, by rw [hn] <;> rfl⟩, q1⟩
theorem se_lenSet (ha : SE K W Δ te (.v av fr) g) : SE K W Δ (tLenSetG K te) (.v true true) (gUn hLenSet g) := fun f ρ σ H Q R q => by
  refine ha f ρ σ H _ R ?_
  unfold gUn at q
  cases e1 : g ρ with
  | bad => rw [e1] at q; exact q
  | ex z => rw [e1] at q; exact q
  | ok d =>
    rw [e1, bnd_ok] at q
    intro v H1 s1 x1
    cases d with
    | list es =>
      unfold hLenSet at q
      simp only at q
      cases ea : allI es with
      | none => rw [ea] at q; exact q.elim
      | some ns =>
        rw [ea] at q
        simp only at q
        by_cases hl : ns.length < 64
        · rw [if_pos hl] at q
          obtain ⟨c, xs, rfl, hs, r⟩ := x1.sql
          rw [rp_ints r ea] at hs
          exact ⟨c, ns, rfl, hs, hl, q _ H1 s1 (.int _)⟩
        · rw [if_neg hl] at q
          exact q.elim
    | _ => exact q.elim
theorem x_lenSet (hm : X.mg "len" = none) (hm2 : X.mg "set" = none) (h : PD X K W Δ a te (.v av fr) g) (hc : X.calm = true := by rfl) (hg : Gl X "len" := by rfl) (hg2 : Gl X "set" := by rfl) (na : starEach [a] X.env = (false, eval a X.env) :: starEach [] X.env := by rfl) :
    PD X K W Δ (.Call (.Name "len" p) [.Call (.Name "set" p2) [a] [] q] [] pos) (tLenSetG K te) (.v true true) (gUn hLenSet g) := ⟨by have w := pe_lenSetG (X := X) (p := p) (p2 := p2) (q := q) (pos := pos) hc hg hm hg2 hm2 h.pe na; rw [h.hK] at w; exact w, h.hK, se_lenSet h.se⟩
end
theorem ddp_nodup {ns : List Int} : (ddp ns).length = ns.length ↔ ns.Nodup := by
  unfold ddp
  constructor
  · intro h
    have key : ∀ i, i ≤ ns.length → (firstMet (fun i => ns.getD i 0) i).length = i → firstMet (fun i => ns.getD i 0) i = ns.take i ∧ (ns.take i).Nodup := by
      intro i
      induction i with
      | zero => intro _ _; exact ⟨rfl, List.nodup_nil⟩
      | succ i ih =>
        intro hi hl
        have hlt : i < ns.length := hi
        rw [firstMet_succ] at hl ⊢
        have hle := firstMet_le (fun i => ns.getD i 0) i
        unfold step_dedup at hl ⊢
        by_cases c : ((firstMet (fun i => ns.getD i 0) i).any (· == ns.getD i 0)) = true
        · rw [if_pos c] at hl; omega
        · rw [if_neg c] at hl ⊢
          rw [List.length_append, List.length_singleton] at hl
          obtain ⟨e1, e2⟩ := ih (by omega) (by omega)
          rw [e1] at c ⊢
          have e : ns.getD i 0 = ns[i] := by rw [List.getD_eq_getElem?_getD, List.getElem?_eq_getElem hlt] <;> rfl
          rw [e] at c ⊢
          have et : ns.take (i + 1) = ns.take i ++ [ns[i]] := by rw [List.take_add_one, List.getElem?_eq_getElem hlt] <;> rfl
          rw [et]
          refine ⟨rfl, ?_⟩
          rw [List.nodup_append]
          refine ⟨e2, by simp, fun x hx y hy => ?_⟩
          rw [List.mem_singleton.mp hy]
          intro z
          subst z
          exact c (List.any_eq_true.mpr ⟨_, hx, by simp⟩)
    obtain ⟨_, e⟩ := key ns.length (Nat.le_refl _) h
    rwa [List.take_length] at e
  · intro h
    rw [L2.firstMet_nodup ns h ns.length (Nat.le_refl _), List.take_length]
end Sim
end T_SimJ

section T_SimS
set_option Elab.async false
set_option linter.all false
set_option maxRecDepth 100000
/-! SimS: sorted(list of tuples of ints), sorted(set(..)) of such and of ints: the hand layer's rules. -/
namespace Sim
/-- the order of lists of ints -/
def lxLt : List Int → List Int → Bool
  | _, [] => false
  | [], _ :: _ => true
  | x :: xs, y :: ys => if x = y then lxLt xs ys else decide (x < y)
theorem lxLt_cons (x y : Int) (xs ys : List Int) : lxLt (x :: xs) (y :: ys) = if x = y then lxLt xs ys else decide (x < y) := rfl
theorem lxLt_irr : ∀ xs : List Int, lxLt xs xs = false
  | [] => rfl
  | x :: xs => by rw [lxLt_cons, if_pos rfl, lxLt_irr xs]
theorem lxLt_trans : ∀ {xs ys zs : List Int}, lxLt xs ys = true → lxLt ys zs = true → lxLt xs zs = true
  | [], [], _, h, _ => by cases h
  | _ :: _, [], _, h, _ => by cases h
  | _, _ :: _, [], _, h => by cases h
  | [], _ :: _, _ :: _, _, _ => rfl
  | x :: xs, y :: ys, z :: zs, h, k => by
    rw [lxLt_cons] at h k ⊢
    by_cases e1 : x = y
    · rw [if_pos e1] at h
      subst e1
      by_cases e2 : x = z
      · rw [if_pos e2] at k ⊢
        exact lxLt_trans h k
      · rw [if_neg e2] at k ⊢
        exact k
    · rw [if_neg e1, decide_eq_true_eq] at h
      by_cases e2 : y = z
      · subst e2
        rw [if_neg e1, decide_eq_true_eq]
        exact h
      · rw [if_neg e2, decide_eq_true_eq] at k
        rw [if_neg (by omega), decide_eq_true_eq]
        omega
theorem lxLt_tri : ∀ {xs ys : List Int}, lxLt xs ys = false → lxLt ys xs = false → xs = ys
  | [], [], _, _ => rfl
  | [], _ :: _, h, _ => by cases h
  | _ :: _, [], _, h => by cases h
  | x :: xs, y :: ys, h, k => by
    rw [lxLt_cons] at h k
    by_cases e : x = y
    · rw [if_pos e] at h
      rw [if_pos e.symm] at k
      rw [e, lxLt_tri h k]
    · rw [if_neg e, decide_eq_false_iff_not] at h
      rw [if_neg (fun z => e z.symm), decide_eq_false_iff_not] at k
      omega
/-- how many of L are less -/
def lrk (L : List (List Int)) (ns : List Int) : Int := ((L.countP fun u => lxLt u ns) : Nat)
theorem count_le {α : Type} {f g : α → Bool} (h : ∀ u, f u = true → g u = true) : ∀ L : List α, L.countP f ≤ L.countP g
  | [] => Nat.le_refl _
  | x :: L => by
    have ih := count_le h L
    rw [List.countP_cons, List.countP_cons]
    cases e : f x with
    | true => rw [h x e]; simp; exact ih
    | false => simp; omega
theorem count_lt {α : Type} {f g : α → Bool} (h : ∀ u, f u = true → g u = true) {p : α} (h1 : f p = false) (h2 : g p = true) : ∀ L : List α, p ∈ L → L.countP f < L.countP g
  | x :: L, hp => by
    rw [List.countP_cons, List.countP_cons]
    rcases List.mem_cons.mp hp with e | hp
    · subst e
      have ih := count_le h L
      rw [h1, h2]
      simp
      omega
    · have ih := count_lt h h1 h2 L hp
      cases e : f x with
      | true => rw [h x e]; simp; exact ih
      | false => simp; omega
theorem lrk_lt {L : List (List Int)} {p q : List Int} (hp : p ∈ L) (hq : q ∈ L) : decide (lrk L p < lrk L q) = lxLt p q := by
  unfold lrk
  cases e : lxLt p q with
  | true =>
    rw [decide_eq_true_eq]
    have := count_lt (f := fun u => lxLt u p) (g := fun u => lxLt u q) (fun u h => lxLt_trans h e) (lxLt_irr p) e L hp
    omega
  | false =>
    rw [decide_eq_false_iff_not]
    cases e2 : lxLt q p with
    | true =>
      have := count_lt (f := fun u => lxLt u q) (g := fun u => lxLt u p) (fun u h => lxLt_trans h e2) (lxLt_irr q) e2 L hq
      omega
    | false =>
      rw [lxLt_tri e e2]
      omega
theorem lift_perm_to {α β : Type} (f : α → β) : ∀ {ys zs : List β}, ys.Perm zs → ∀ L : List α, zs = L.map f → ∃ L' : List α, L'.Perm L ∧ ys = L'.map f := by
  intro ys zs h
  induction h with
  | nil =>
    intro L e
    have : L = [] := List.map_eq_nil_iff.mp e.symm
    subst this
    exact ⟨[], List.Perm.refl _, rfl⟩
  | cons x _ ih =>
    intro L e
    cases L with
    | nil => cases e
    | cons a L =>
      rw [List.map_cons] at e
      injection e with e1 e2
      obtain ⟨L', h1, h2⟩ := ih L e2
      exact ⟨a :: L', h1.cons a, by rw [List.map_cons, e1, h2]⟩
  | swap x y l =>
    intro L e
    cases L with
    | nil => cases e
    | cons a L =>
      cases L with
      | nil => rw [List.map_cons, List.map_nil] at e; injection e with e1 e2; cases e2
      | cons b L =>
        rw [List.map_cons, List.map_cons] at e
        injection e with e1 e2
        injection e2 with e2 e3
        exact ⟨b :: a :: L, List.Perm.swap .., by rw [List.map_cons, List.map_cons, e1, e2, e3]⟩
  | trans _ _ ih1 ih2 =>
    intro L e
    obtain ⟨L2, h1, h2⟩ := ih2 L e
    obtain ⟨L3, h3, h4⟩ := ih1 L2 h2
    exact ⟨L3, h3.trans h1, h4⟩
end Sim
namespace TS
open PySem PyProof.Rows Sim
section
variable {prog : Program} {w : World} {A : Around} {E : Value → Shared → Prop} {s : Shared} {Q : Bool → Shared → Prop}
theorem lex_gen {b : Bool} {xs ys : List Value} {ns ms : List Int} (i : Nat) (hx : IntsAre xs ns) (hy : IntsAre ys ms) (h : Q (lxLt ns ms) s) : PySem.W.KatLex prog w A b (decide (ns.length < ms.length)) Q (xs.zip ys) i s := by
  induction hx generalizing ys ms i with
  | nil =>
    cases hy with
    | nil => exact PySem.W.kat_nil h
    | cons q u hy => exact PySem.W.kat_nil (by rw [show decide (([] : List Int).length < (q :: _).length) = true by simp]; exact h)
  | @cons p t xs ns hx ih =>
    cases hy with
    | nil => exact PySem.W.kat_nil (by rw [show decide ((p :: ns).length < ([] : List Int).length) = false by simp]; exact h)
    | @cons q u ys ms hy =>
      have e0 : decide ((p :: ns).length < (q :: ms).length) = decide (ns.length < ms.length) := by simp
      rw [e0]
      show PySem.W.KatLex prog w A b _ Q ((Value.int p t, Value.int q u) :: xs.zip ys) i s
      rw [lxLt_cons] at h
      refine PySem.W.kat_cons (wpAny_eqBool_int ?_)
      by_cases e : p = q
      · rw [if_pos e] at h
        subst e
        rw [beq_self_eq_true]
        exact PySem.W.kat_yes (ih (i + 1) hy h)
      · rw [if_neg e] at h
        rw [show (p == q) = false from beq_eq_false_iff_ne.mpr e]
        exact PySem.W.kat_no (oneLt_ints _ h)
end
/-- tuples of ints, none empty -/
def TupsL (h : Heap) (vs : List Value) : Prop := ∀ v, v ∈ vs → ∃ ns, TupInts h v ns ∧ ns ≠ []
theorem TupsL.keeps {h h' : Heap} {vs : List Value} (x : TupsL h vs) (k : ∀ b o, h.get? b = some o → o.cls = .type "tuple" → h'.get? b = some o) : TupsL h' vs := fun v hv =>
  let ⟨ns, t, r⟩ := x v hv; ⟨ns, t.keeps k, r⟩
theorem firsts_lex {h : Heap} : ∀ vs : List Value, TupsL h vs → ∃ fs, PySem.W.KatTups h vs fs ∧ fs.length = vs.length ∧ ∀ f, f ∈ fs → ∃ n t, f = Value.int n t
  | [], _ => ⟨[], PySem.W.KatTups.nil, rfl, fun f hf => by simp at hf⟩
  | v :: vs, x => by
    obtain ⟨fs, k, hl, hi⟩ := firsts_lex vs fun u hu => x u (List.mem_cons_of_mem _ hu)
    obtain ⟨ns, ⟨a, xs, rfl, ⟨o, ho, hc, n, hdt⟩, i⟩, hn⟩ := x v (List.mem_cons_self ..)
    obtain ⟨y, ys, e⟩ : ∃ y ys, xs.toList = y :: ys := by
      cases q : xs.toList with
      | nil =>
        rw [q] at i
        cases i
        exact absurd rfl hn
      | cons y ys => exact ⟨y, ys, rfl⟩
    obtain ⟨m, t, hy⟩ := i.all y (by rw [e]; exact List.mem_cons_self ..)
    refine ⟨y :: fs, PySem.W.KatTups.cons ho hc hdt ?_ k, by simp [hl], fun f hf => ?_⟩
    · have z := congrArg (fun l : List Value => l[0]?) e
      simpa using z
    · rcases List.mem_cons.mp hf with rfl | hf
      · exact ⟨m, t, hy⟩
      · exact hi f hf
section
variable {prog : Program} {w : World} {A : Around} {E : Value → Shared → Prop} {s : Shared}
theorem kind_lex {vs : List Value} (h2 : 2 ≤ vs.length) (x : TupsL s.heap vs) (r : Value → Int) (hr : ∀ v, v ∈ vs → ∀ u, u ∈ vs → ∀ ns ms, TupInts s.heap v ns → TupInts s.heap u ms → decide (r v < r u) = lxLt ns ms) (Q : SortKind → Shared → Prop)
    (h : ∀ κ, Cmp prog w A s κ (pairsOf vs) r → Q κ s) : wpAny (model prog w) A (keyKind' vs.toArray) Q E s := by
  obtain ⟨fs, k, hl, hi⟩ := firsts_lex vs x
  refine PySem.W.kat_kind (T := Value.type "int") k (by omega) (fun f hf => ?_) rfl (h _ fun p q hp hq Q' E' hQ => ?_)
  · obtain ⟨n, t, rfl⟩ := hi f hf
    exact PySem.W.Looks.of_pure rfl
  · rw [pairsOf_toList] at hp hq
    obtain ⟨ns, tp, _⟩ := x _ (mem_zip_self hp).2
    obtain ⟨ms, tq, _⟩ := x _ (mem_zip_self hq).2
    have hQ' : Q' (lxLt ns ms) s := by
      rw [← hr _ (mem_zip_self hp).2 _ (mem_zip_self hq).2 ns ms tp tq]
      exact hQ
    obtain ⟨a, xs, e1, ⟨o, ho, hc, n, hdt⟩, i⟩ := tp
    obtain ⟨a', ys, e2, ⟨o', ho', hc', n', hdt'⟩, i'⟩ := tq
    rw [e1, e2]
    refine PySem.W.kat_lt ho hdt ho' hdt' ?_
    have l1 := i.length
    have l2 := i'.length
    rw [Array.length_toList] at l1 l2
    rw [l1, l2]
    exact lex_gen 0 i i' hQ'
/-- the sort of a list of tuples of ints -/
theorem sort_lex {a : Addr} {vs : List Value} {n : Nat} {P : PySem.Fin → Shared → Prop} (ho : s.heap.get? a = some (seqObj "list" vs.toArray n)) (h64 : vs.length < 64) (x : TupsL s.heap vs)
    (h : ∀ out : Array Value, out.toList.Perm vs → out.toList.Pairwise (fun u v => lxLt (intsOf s.heap v) (intsOf s.heap u) = false) → P (.done (.ret .none)) { s with heap := sortedHeap s.heap a vs out }) :
    wpAny (model prog w) A (Builtin.«list.sort» ⟨[.ref a], []⟩) P E s := by
  have keep : ∀ b o, s.heap.get? b = some o → o.cls = .type "tuple" → (midHeap s.heap a vs).get? b = some o := fun b o e hc => by
    refine midHeap_old ?_ e
    rintro rfl
    rw [ho] at e
    cases Option.some.inj e
    exact absurd hc (by simp [seqObj])
  have mem : ∀ v, v ∈ vs → intsOf s.heap v ∈ vs.map (intsOf s.heap) := fun v hv => List.mem_map.mpr ⟨v, hv, rfl⟩
  refine SK.plain_sort (r := fun v => lrk (vs.map (intsOf s.heap)) (intsOf s.heap v)) ho h64 (fun h2 Q hQ => ?_) fun ps out h1 h2 h3 => ?_
  · refine kind_lex (s := { s with heap := midHeap s.heap a vs }) h2 (x.keeps keep) _ (fun v hv u hu ns ms tv tu => ?_) Q hQ
    obtain ⟨ns0, t0, _⟩ := x v hv
    obtain ⟨ms0, t1, _⟩ := x u hu
    have e : ns = ns0 := tv.ints.symm.trans (t0.keeps keep).ints
    have e' : ms = ms0 := tu.ints.symm.trans (t1.keeps keep).ints
    rw [e, e', ← t0.ints, ← t1.ints]
    exact lrk_lt (mem v hv) (mem u hu)
  · obtain ⟨p, o⟩ := out_rank (r := fun v => lrk (vs.map (intsOf s.heap)) (intsOf s.heap v)) h1 h2 h3
    refine h out p (List.Pairwise.imp_of_mem (fun {u v} hu hv hle => ?_) o)
    rw [← lrk_lt (mem v (p.mem_iff.mp hv)) (mem u (p.mem_iff.mp hu)), decide_eq_false_iff_not]
    omega
theorem call_sort_lex {a : Addr} {vs : List Value} {n : Nat} {Q : Value → Shared → Prop} (ho : s.heap.get? a = some (seqObj "list" vs.toArray n)) (h64 : vs.length < 64) (x : TupsL s.heap vs)
    (h : ∀ out : Array Value, out.toList.Perm vs → out.toList.Pairwise (fun u v => lxLt (intsOf s.heap v) (intsOf s.heap u) = false) → Q .none { s with heap := sortedHeap s.heap a vs out }) :
    wpAny (model prog w) A (call (.builtin "list.sort") [.ref a]) Q E s :=
  wpAny_call_entry slot_list_sort ⟨_, ho, rfl⟩ entry_list_sort (sort_lex ho h64 x fun out h1 h2 => ⟨_, rfl, h out h1 h2⟩) (args_list_sort _)
theorem sorted_lex {l : Addr} {vs : List Value} {Q : Value → Shared → Prop} (hl : s.heap.IsList l vs.toArray) (h64 : vs.length < 64) (x : TupsL s.heap vs)
    (h : ∀ out : Array Value, out.toList.Perm vs → out.toList.Pairwise (fun u v => lxLt (intsOf s.heap v) (intsOf s.heap u) = false) → Q (.ref (s.heap.objs.size + 1)) { s with heap := sortedAll s.heap vs out }) :
    wpAny (model prog w) A (call (.builtin "sorted") [.ref l]) Q E s := by
  refine Calls.call_function_entry kind_sorted plain_sorted entry_sorted (args_sorted1 _) ?_
  unfold Builtin.«sorted»
  refine wpAny_bind (m := checkCount "sorted" 1 1 _) (wpAny_pure ?_)
  refine wpAny_bind (collect_list hl ?_ (by rw [sizeLine_eq]; omega))
  refine wpAny_bind (wpAny_newList ?_ (by rw [sizeLine_eq]; omega))
  have hsz : ((s.heap.push (seqObj "list" #[] 0)).update s.heap.objs.size (Obj.mapSeq (· ++ vs.toArray))).objs.size = s.heap.objs.size + 1 := by rw [Heap.size_update, size_push']
  have hoL : (((s.heap.push (seqObj "list" #[] 0)).update s.heap.objs.size (Obj.mapSeq (· ++ vs.toArray))).push (seqObj "list" vs.toArray 0)).get? (s.heap.objs.size + 1) = some (seqObj "list" vs.toArray 0) := by rw [← hsz]; exact Heap.get?_push_size _ rfl
  have keep : ∀ b o, s.heap.get? b = some o → o.cls = .type "tuple" → (((s.heap.push (seqObj "list" #[] 0)).update s.heap.objs.size (Obj.mapSeq (· ++ vs.toArray))).push (seqObj "list" vs.toArray 0)).get? b = some o := fun b o q _ => by
    have hlt : b < s.heap.objs.size := Heap.lt_size q
    rw [Heap.get?_push_ne _ _ _ (by rw [hsz]; exact Nat.ne_of_lt (Nat.lt_succ_of_lt hlt)), Heap.get?_update_ne _ _ _ _ (Nat.ne_of_lt hlt), Heap.get?_push_ne _ _ _ (Nat.ne_of_lt hlt)]
    exact q
  show wpAny _ _ _ _ _ { s with heap := ((s.heap.push (seqObj "list" #[] 0)).update s.heap.objs.size (Obj.mapSeq (· ++ vs.toArray))).push (seqObj "list" vs.toArray 0) }
  rw [hsz]
  refine wpAny_bind (wpAny_holding (wpAny_call_entry slot_list_sort ⟨_, hoL, rfl⟩ entry_list_sort (sort_lex hoL h64 (x.keeps keep) fun out a1 a2 => ⟨_, rfl, ?_⟩) (args_list_sort _)))
  refine wpAny_pure ⟨_, rfl, h out a1 (List.Pairwise.imp_of_mem (fun {u v} hu hv hlt => ?_) a2)⟩
  have one : ∀ v, v ∈ out.toList → intsOf (((s.heap.push (seqObj "list" #[] 0)).update s.heap.objs.size (Obj.mapSeq (· ++ vs.toArray))).push (seqObj "list" vs.toArray 0)) v = intsOf s.heap v := fun v hv => by
    obtain ⟨ns, t, _⟩ := x v (a1.mem_iff.mp hv)
    rw [(t.keeps keep).ints, t.ints]
  rw [← one v hv, ← one u hu]
  exact hlt
end
end TS
end T_SimS

section T_SimT
set_option Elab.async false
set_option linter.all false
set_option maxRecDepth 100000
/-! SimT: sorted(set(list)), sorted(list) of tuples; tuple(range): rules and closures. -/
namespace L2
open PySem PySem.Spec PyProof.Rows Sim
section
variable {P : Program} {w : World} {A : Around} {E : Value → Shared → Prop} {s : Shared}
abbrev freshSet (w : World) : Obj := { cls := .type "set", dict := none, data := .set #[] 0 (.fresh 0 0 (!w.params.followText "set-order")) }
set_option maxHeartbeats 3200000 in
/-- set(xs), xs a list of ints: as the walk over a set wants it -/
theorem call_set_lstI {l : Addr} {items : Array Value} (ns : List Int) {Q : Value → Shared → Prop} (hh : A.handled = none) (hl : s.heap.IsList l items) (hit : IntsAre items.toList ns) (hb : ns.length + 1 < scanBound)
    (h : ∀ (h' : Heap) (tk c : Nat), SetR w h' s.heap.objs.size (fun j => decide (j ∈ ns)) c → c ≤ ns.length → (∀ b o, s.heap.get? b = some o → h'.get? b = some o) → Q (.ref s.heap.objs.size) { s with heap := h', toks := tk }) :
    wpAny (model P w) A (call (.type "set") [.ref l]) Q E s := by
  have hisz : items.size = ns.length := by
    have q := IntsAre.length hit
    rwa [Array.length_toList] at q
  obtain ⟨c, tl, hmro⟩ := F.called_set.mro
  have hmade := F.called_set.made
  have hsub := F.called_set.sub
  refine wpAny_call (codeAny_of_tree ?_)
  show wpAny _ _ (callAny (.type "set") _) _ _ _
  refine wpAny_pure ⟨Code.quiet_builtin _ (by decide +kernel), codeAny_builtin F.entry_type_call ?_⟩
  rw [Around.under_plain (weight_type_call_type "set" [.ref l] []) rfl]
  have h1 := F.called_set.notType
  have h2 := F.called_set.canCreate
  have hct := F.typeCall_set_1 (.ref l)
  repeat (any_goals (first | assumption | wp_step))
  refine codeAny_mono (code_set_led1 (.ref l) (E := E) (Q₁ := fun obj s₁ => obj = .ref s.heap.objs.size ∧ s₁ = { s with heap := s.heap.push (freshSet w) }) ⟨rfl, rfl⟩) fun r s₁ hr => ?_
  cases r with
  | error e => exact hr
  | ok fl =>
    cases fl with
    | ret obj =>
      obtain ⟨rfl, rfl⟩ := hr
      have hS : (s.heap.push (freshSet w)).get? s.heap.objs.size = some (freshSet w) := Heap.get?_push_size _ rfl
      have hT : Shared.TypeIs { s with heap := s.heap.push (freshSet w) } (.ref s.heap.objs.size) "set" := ⟨_, hS, rfl⟩
      have hli := F.called_set.init.lookup
      have hbi := F.called_set.init.bind (.ref s.heap.objs.size)
      repeat (any_goals (first | assumption | wp_step))
      refine codeAny_mono (codeAny_call_builtin (R := wants (fun r s₂ => r = .none ∧ ∃ h' tk c, s₂ = { s with heap := h', toks := tk } ∧ SetR w h' s.heap.objs.size (fun j => decide (j ∈ ns)) c ∧ c ≤ ns.length ∧
          (∀ b o, s.heap.get? b = some o → h'.get? b = some o)) E) F.called_set.init.plain F.entry_set_init (check_set_init_1 hT ?_)) fun r₂ s₂ hr₂ => ?_
      · obtain ⟨ol, hol, hcl, nl, hdl⟩ := hl
        obtain ⟨ocls, odict, odata, oslots⟩ := ol
        simp only at hcl hdl
        subst hcl; subst hdl
        have hol' : (s.heap.push (freshSet w)).get? l = some { cls := .type "list", dict := odict, data := .seq items nl, slots := oslots } := Heap.get?_push_of_some _ hol
        have hsls := F.sub_list_set
        have hslf := F.sub_list_frozenset
        have hne : (Value.type "list" == Value.type "dict") = false := by decide
        have hl1 : (s.heap.push (freshSet w)).IsList l items := ⟨_, hol', rfl, nl, rfl⟩
        unfold Builtin.«set.__init__» noKeywords Builtin.Frozenset.updateFrom
        generalize hPI : pyIter = PI
        wp_walk
        subst hPI
        refine wpAny_pyIter_list hl1 ?_
        refine wpAny_bind (wpAny_runValue ?_)
        have hlS : l < s.heap.objs.size := Heap.lt_size hol
        have hh3 : A.in1.in1.in1.handled = none := by simp [hh]
        have hneI : l ≠ (s.heap.push (freshSet w)).objs.size := by
          rw [Heap.size_push]; exact Nat.ne_of_lt (Nat.lt_succ_of_lt hlS)
        have hSf : s.heap.objs.size ∉ [(s.heap.push (freshSet w)).objs.size, l] := by
          rw [Heap.size_push]; simp only [List.mem_cons, List.mem_singleton, List.not_mem_nil, or_false, not_or]
          exact ⟨Nat.ne_of_lt (Nat.lt_succ_self _), Nat.ne_of_gt hlS⟩
        have hval : ∀ (i : Nat) (v : Value), items[i]? = some v → ∃ k t, ns[i]? = some k ∧ v = .int k t := fun i v hv => by
          have hi : i < ns.length := by rw [← hisz]; exact (Array.getElem?_eq_some_iff.mp hv).1
          obtain ⟨t, e⟩ := PyProof.Rows.IntsAre.int_at hit i v (by rw [Array.getElem?_toList]; exact hv)
          refine ⟨ns[i], t, List.getElem?_eq_getElem hi, ?_⟩
          rw [e, List.getD_eq_getElem?_getD, List.getElem?_eq_getElem hi] <;> rfl
        refine set_update_ints ((Walks.list hh3 _ l hneI items).toS) s.heap.objs.size
          hSf ns hisz hb hval (items.size - 0) 0 _ (by omega) (Nat.zero_le _)
          ⟨⟨_, Heap.get?_push_size _ rfl, rfl, rfl⟩, (hl1.push _)⟩ ?hS0 ?hR
        case hS0 =>
          have hget : ((s.heap.push (freshSet w)).push { cls := .type "list_iterator", data := .fields #[.ref l, .int 0 0] }).get? s.heap.objs.size = some (freshSet w) := Heap.get?_push_of_some _ hS
          exact ⟨0, Nat.le_refl 0, setR_new_at hget⟩
        case hR =>
          intro s' c' hm hc' hS'
          obtain ⟨h', g2, d', tk', os'⟩ := s'
          have eg : g2 = s.gens := hm.gens
          have ed : d' = s.drawn := hm.drawn
          have eo : os' = s.os := hm.os
          subst eg; subst ed; subst eo
          show wpAny _ _ _ _ _ _
          refine wpAny_pure ?_
          show wpAny _ _ (ret Value.none) _ _ _
          rw [hisz] at hc'
          refine wpAny_pure ⟨rfl, h', tk', c', rfl, hS', hc', fun b o e => ?_⟩
          have hb0 : b < s.heap.objs.size := Heap.lt_size e
          have hb1 : b ≠ s.heap.objs.size := Nat.ne_of_lt hb0
          have hb2 : b ≠ (s.heap.push (freshSet w)).objs.size := by
            rw [Heap.size_push]; exact Nat.ne_of_lt (Nat.lt_succ_of_lt hb0)
          exact hm.heap b o (by simp only [List.mem_cons, List.mem_singleton, List.not_mem_nil, or_false, not_or]; exact ⟨hb1, hb2⟩) (Heap.get?_push_of_some _ (Heap.get?_push_of_some _ e))
      · cases r₂ with
        | error e => exact hr₂
        | ok fl₂ =>
          cases fl₂ with
          | ret r =>
            obtain ⟨rfl, h', tk, c', rfl, hS', hc', hk'⟩ := hr₂
            repeat (any_goals (first | assumption | wp_step))
            exact h _ _ _ hS' hc' hk'
          | _ => exact hr₂.elim
    | _ => exact hr.elim
/-- sorted(set) of tuples of ints, of any lengths -/
theorem sorted_setL {a : Addr} {L : List (Addr × List Int)} {es : Array (Int × Value)} {ep : Nat} {t : SetTable} {Q : Value → Shared → Prop} (R : SetTR P w s.heap a L es ep t) (hh : A.handled = none) (hne : ∀ p ∈ L, p.2 ≠ [])
    (hQ : ∀ s' p (out : Array Value) (c : Nat) (L' : List (Addr × List Int)), (∀ b o, s.heap.get? b = some o → s'.heap.get? b = some o) → s'.gens = s.gens → s'.os = s.os → s.heap.objs.size ≤ p →
      s'.heap.get? p = some (seqObj "list" out c) → out.toList = L'.map (fun q => Value.ref q.1) → L'.Perm L → L'.Pairwise (fun q r => lxLt r.2 q.2 = false) → Q (.ref p) s') :
    wpAny (model P w) A (call (.builtin "sorted") [.ref a]) Q E s := by
  obtain ⟨o, ho, hex, hd⟩ := R.ob
  have hfew := R.few
  have hsz := R.size
  refine Calls.call_function_entry kind_sorted plain_sorted entry_sorted (args_sorted1 _) ?_
  unfold Builtin.«sorted»
  refine wpAny_bind (m := checkCount "sorted" 1 1 _) (wpAny_pure ?_)
  refine wpAny_bind (collect_set (A := A.in1) hh ⟨o, ho, hex.1, hd⟩ R.fits (by unfold scanBound; omega) R.tab.ris R.led fun s1 vs k1 hz g1 o1 pm => ?_)
  have hes : es.toList.map (·.2) = L.map fun q => Value.ref q.1 := by
    rw [R.rows]
    unfold rowsOf
    rw [List.map_map]
    rfl
  rw [hes] at pm
  have hvl : vs.length < 64 := by rw [pm.length_eq, List.length_map]; exact hfew
  refine wpAny_bind (wpAny_newList ?_ (by rw [sizeLine_eq]; omega))
  have hoL : (s1.heap.push (seqObj "list" vs.toArray 0)).get? s1.heap.objs.size = some (seqObj "list" vs.toArray 0) := Heap.get?_push_size _ rfl
  have tk : ∀ q ∈ L, TS.TupInts (s1.heap.push (seqObj "list" vs.toArray 0)) (.ref q.1) q.2 := fun q hq => tupInts_of (P := P) (w := w) (isT_keep (R.tup q hq) fun b u e => Heap.get?_push_of_some _ (k1 b u e))
  have x : TS.TupsL (s1.heap.push (seqObj "list" vs.toArray 0)) vs := fun v hv => by
    obtain ⟨q, hq, e⟩ := List.mem_map.mp (pm.mem_iff.mp hv)
    rw [← e]
    exact ⟨q.2, tk q hq, hne q hq⟩
  refine wpAny_bind (wpAny_holding (TS.call_sort_lex (s := { s1 with heap := s1.heap.push (seqObj "list" vs.toArray 0) }) hoL hvl x fun out a1 a2 => ?_))
  obtain ⟨c, hc⟩ := sortedHeap_at (vs := vs) (out := out) hoL
  obtain ⟨L', pL, e'⟩ := lift_perm_to (fun q : Addr × List Int => Value.ref q.1) (a1.trans pm) L rfl
  refine wpAny_pure ⟨_, rfl, hQ _ s1.heap.objs.size out c L' (fun b u e => ?_) g1 o1 hz hc e' pL ?_⟩
  · have q := k1 b u e
    have hlt := Heap.lt_size q
    show (sortedHeap (s1.heap.push (seqObj "list" vs.toArray 0)) s1.heap.objs.size vs out).get? b = some u
    rw [sortedHeap_old (Nat.ne_of_lt hlt) (by rw [size_push']; exact Nat.lt_succ_of_lt hlt)]
    exact Heap.get?_push_of_some _ q
  · rw [e'] at a2
    refine List.Pairwise.imp_of_mem (fun {q r} hq hr hle => ?_) (List.pairwise_map.mp a2)
    rw [← (tk q (pL.mem_iff.mp hq)).ints, ← (tk r (pL.mem_iff.mp hr)).ints]
    exact hle
end
end L2
namespace Sim
open PySem PySem.Spec L2
open PyProof.Rows hiding St
section
variable {X : Cx}
/-- sorted(xs), xs a list of tuples of ints -/
def rSortL (K : PySem.W.Frag) : List V → Hp → VK → Prop := fun vs H Q => ∃ (a : Addr) (L : List (Addr × List Int)), vs = [V.ref a] ∧ SqL K H a (L.map fun p => V.ref p.1) ∧ L.length < 64 ∧ (∀ p ∈ L, SqT K H p.1 (p.2.map V.int) ∧ p.2 ≠ []) ∧
  ∀ (L' : List (Addr × List Int)) (p : Addr), L'.Perm L → L'.Pairwise (fun q r => lxLt r.2 q.2 = false) → H p = none → Q (.ref p) (upd H p (.lst (L'.map fun q => V.ref q.1)))
theorem cr_sortL : CallR X (.builtin "sorted") (rSortL X.K) := by
  intro pins s σ H vs us Q I r h
  obtain ⟨a, L, rfl, hs, h64, hx, q⟩ := h
  obtain ⟨its, rv, hl, hz⟩ := I.list hs
  rw [Vals.ref1 r]
  have eits := refs_of_vals rv
  have tk : ∀ p ∈ L, TS.TupInts s.heap (.ref p.1) p.2 := fun p hp => tupI_raw I (hx p hp).1
  refine TS.sorted_lex hl.isList (by rw [← rv.length, List.length_map]; exact h64) (fun v hv => ?_) fun out h1 h2 => ?_
  · rw [eits] at hv
    obtain ⟨p, hp, e⟩ := List.mem_map.mp hv
    rw [← e]
    exact ⟨p.2, tk p hp, (hx p hp).2⟩
  · obtain ⟨ep, he'⟩ := PyProof.Rows.sortedAll_at s.heap its out
    obtain ⟨L', pL, e'⟩ := lift_perm_to (fun q : Addr × List Int => Value.ref q.1) h1 L eits
    have hlen : (L'.map fun q => V.ref q.1).length ≤ sizeLine := by rw [List.length_map, pL.length_eq, sizeLine_eq]; omega
    have hv : Vals (L'.map fun q => V.ref q.1) out.toList := by rw [e']; exact vals_of_refs L'
    refine ⟨.ref _, upd H (s.heap.objs.size + 1) (.lst (L'.map fun q => V.ref q.1)), I.laid (t' := s.toks) (fun _ _ => PyProof.Rows.sortedAll_old) (Nat.le_succ _) ⟨hlen, out.toList, ep, hv, he'⟩, rfl, q L' _ pL ?_ (I.hok.fresh (Nat.le_succ _))⟩
    rw [e'] at h2
    refine List.Pairwise.imp_of_mem (fun {q r} hq hr hle => ?_) (List.pairwise_map.mp h2)
    rw [← (tk q (pL.mem_iff.mp hq)).ints, ← (tk r (pL.mem_iff.mp hr)).ints]
    exact hle
/-- sorted(set(xs)) of ints -/
def tSortSetI (K : PySem.W.Frag) (te : TE) : TE := fun σ H Q => te σ H fun x H1 => ∃ (l : Addr) (ns : List Int), x = V.ref l ∧ SqL K H1 l (ns.map V.int) ∧ ns.length < 64 ∧
  ∀ (ns' : List Int) (p : Addr), ns'.Pairwise (· < ·) → (∀ k, k ∈ ns' ↔ k ∈ ns) → H1 p = none → Q (.ref p) (upd H1 p (.lst (ns'.map V.int)))
/-- sorted(set(xs)) of tuples of ints -/
def tSortSetT (K : PySem.W.Frag) (te : TE) : TE := fun σ H Q => te σ H fun x H1 => ∃ (l : Addr) (ks : List (Addr × List Int)), x = V.ref l ∧ SqL K H1 l (ks.map fun p => V.ref p.1) ∧ (∀ p ∈ ks, SqT K H1 p.1 (p.2.map V.int) ∧ p.2 ≠ []) ∧ ks.length < 64 ∧
  ∀ (L : List (Addr × List Int)) (p : Addr), (∀ q ∈ L, q ∈ ks) → (∀ q ∈ ks, q.2 ∈ L.map (·.2)) → (L.map (·.2)).Nodup → L.Pairwise (fun q r => lxLt r.2 q.2 = false) → H1 p = none → Q (.ref p) (upd H1 p (.lst (L.map fun q => V.ref q.1)))
variable {a : Expr} {ta te : TE} {p p2 q pos : Pos}
theorem pe_sortSetI (hc : X.calm = true) (hg : Gl X "sorted") (hm : X.mg "sorted" = none) (hg2 : Gl X "set") (hm2 : X.mg "set" = none) (ha : PE X a ta)
    (na : starEach [a] X.env = (false, eval a X.env) :: starEach [] X.env := by rfl) : PE X (.Call (.Name "sorted" p) [.Call (.Name "set" p2) [a] [] q] [] pos) (tSortSetI X.K ta) := by
  refine ⟨fun pins s σ H Q I h => ?_⟩
  refine Call_ (ld_blt I hg hm (by decide +kernel : bootBuiltins "sorted" = some (.builtin "sorted")) ?_)
  refine PyProof.Rows.callWith_builtin1 (PyProof.Rows.args_cons ?_ rfl) rfl rfl
  refine Call_ (ld_blt I hg2 hm2 PyProof.Rows.boot_set ?_)
  refine PyProof.Rows.callWith_type1 (PyProof.Rows.args_cons (thn (ha.run pins s σ H _ I h) fun v s1 ⟨x, H1, I1, r1, q1⟩ => PyProof.Rows.args_nil ?_) na) na rfl
  obtain ⟨l, ns, rfl, hq, h1, q1⟩ := q1
  cases r1
  obtain ⟨its, r, pl, hz⟩ := I1.list hq
  refine call_set_lstI ns (I1.ok.hd hc) pl.isList (by simpa using r.ints) (by unfold scanBound; omega) fun h' tk c hS hcl hk => ?_
  have I2 : Inv X pins σ H1 { s1 with heap := h', toks := tk } := I1.kept hk
  refine PyProof.Rows.args_nil ?_
  refine sorted_set (s := { s1 with heap := h', toks := tk }) hS (I1.ok.hd hc) (by omega) fun s' p' out c' ns' k g o hp hgt hI hpw hmem hlen => ?_
  have hn : H1 p' = none := I2.hok.fresh hp
  have hle : (ns'.map V.int).length ≤ sizeLine := by rw [List.length_map, sizeLine_eq]; omega
  have J : Inv X pins σ (upd H1 p' (.lst (ns'.map V.int))) { ({ s1 with heap := h', toks := tk } : Shared) with heap := s'.heap, gens := s'.gens, drawn := s'.drawn, toks := s'.toks } :=
    I2.call (ch := []) (Un.laid k hp hn) (I2.hok.laid k hp ⟨hle, out.toList, c', vals_of_ints hI, hgt⟩) (by rw [g]; exact I2.bare) (fun _ z => nomatch z)
  have e : s' = { ({ s1 with heap := h', toks := tk } : Shared) with heap := s'.heap, gens := s'.gens, drawn := s'.drawn, toks := s'.toks } := by
    cases s'
    cases s1
    cases o
    rfl
  rw [e]
  exact ⟨.ref p', _, J, rfl, q1 ns' p' hpw (fun k => by rw [hmem k, decide_eq_true_eq]) hn⟩
theorem pe_sortSetT (hc : X.calm = true) (hu : X.A.units + 64 < cLine) (hg : Gl X "sorted") (hm : X.mg "sorted" = none) (hg2 : Gl X "set") (hm2 : X.mg "set" = none) (ha : PE X a ta)
    (na : starEach [a] X.env = (false, eval a X.env) :: starEach [] X.env := by rfl) : PE X (.Call (.Name "sorted" p) [.Call (.Name "set" p2) [a] [] q] [] pos) (tSortSetT X.K ta) := by
  refine ⟨fun pins s σ H Q I h => ?_⟩
  refine Call_ (ld_blt I hg hm (by decide +kernel : bootBuiltins "sorted" = some (.builtin "sorted")) ?_)
  refine PyProof.Rows.callWith_builtin1 (PyProof.Rows.args_cons ?_ rfl) rfl rfl
  refine Call_ (ld_blt I hg2 hm2 PyProof.Rows.boot_set ?_)
  refine PyProof.Rows.callWith_type1 (PyProof.Rows.args_cons (thn (ha.run pins s σ H _ I h) fun v s1 ⟨x, H1, I1, r1, q1⟩ => PyProof.Rows.args_nil ?_) na) na rfl
  obtain ⟨l, ks, rfl, hq, hks, h1, q1⟩ := q1
  cases r1
  obtain ⟨its, r, pl, hz⟩ := I1.list hq
  refine call_set_tups (P := X.prog) (w := X.w) ks (I1.ok.hd hc) pl.isList (by simpa using refs_of_vals r) (fun p hp => I1.isT (hks p hp).1) h1 (by omega) fun h' tk L es ep t R g0 hk => ?_
  have I2 : Inv X pins σ H1 { s1 with heap := h', toks := tk } := I1.kept hk
  have hsub : ∀ q ∈ L, q ∈ ks := fun q hq => List.mem_of_mem_take (g0.sub q hq)
  refine PyProof.Rows.args_nil ?_
  refine sorted_setL (s := { s1 with heap := h', toks := tk }) R (I1.ok.hd hc) (fun q hq => (hks q (hsub q hq)).2) fun s' p' out c' L' k g o hp hgt hout pm hpw => ?_
  have hn : H1 p' = none := I2.hok.fresh hp
  have hfew : L'.length < 64 := by rw [pm.length_eq]; exact R.few
  have hle : (L'.map fun q => V.ref q.1).length ≤ sizeLine := by rw [List.length_map, sizeLine_eq]; omega
  have hv : Vals (L'.map fun q => V.ref q.1) out.toList := by rw [hout]; exact vals_of_refs L'
  have J : Inv X pins σ (upd H1 p' (.lst (L'.map fun q => V.ref q.1))) { ({ s1 with heap := h', toks := tk } : Shared) with heap := s'.heap, gens := s'.gens, drawn := s'.drawn, toks := s'.toks } :=
    I2.call (ch := []) (Un.laid k hp hn) (I2.hok.laid k hp ⟨hle, out.toList, c', hv, hgt⟩) (by rw [g]; exact I2.bare) (fun _ z => nomatch z)
  have e : s' = { ({ s1 with heap := h', toks := tk } : Shared) with heap := s'.heap, gens := s'.gens, drawn := s'.drawn, toks := s'.toks } := by
    cases s'
    cases s1
    cases o
    rfl
  rw [e]
  refine ⟨.ref p', _, J, rfl, q1 L' p' (fun q hq => hsub q (pm.mem_iff.mp hq)) (fun q hq => ?_) ((pm.map (·.2)).nodup_iff.mpr R.nd) hpw hn⟩
  have := g0.all q (by rw [List.take_length]; exact hq)
  exact (pm.map (·.2)).mem_iff.mpr this
end
end Sim
end T_SimT

section T_SimU
set_option Elab.async false
set_option linter.all false
set_option maxRecDepth 100000
/-! SimU: sorted(list of tuples), sorted(set(..)), tuple(range): the closures. -/
namespace Sim
open PySem PySem.Spec L2
open PyProof.Rows hiding St

def allT : List Dt → Option (List (List Int))
  | [] => some []
  | .tuple xs :: ds => match allI xs with
    | some ns => match allT ds with
      | some nss => some (ns :: nss)
      | none => none
    | none => none
  | _ :: _ => none
def encL (ns : List Int) : Dt := .tuple (ns.map .int)
theorem allT_map : ∀ nss : List (List Int), allT (nss.map encL) = some nss
  | [] => rfl
  | ns :: nss => by
    rw [List.map_cons]
    unfold encL allT
    rw [show allI (ns.map PyData.int) = some ns from allI_map ns]
    have := allT_map nss
    unfold encL at this
    rw [this]
def dd {α : Type} [DecidableEq α] : List α → List α
  | [] => []
  | x :: xs => if x ∈ xs then dd xs else x :: dd xs
theorem mem_dd {α : Type} [DecidableEq α] {y : α} : ∀ {xs : List α}, y ∈ dd xs ↔ y ∈ xs
  | [] => Iff.rfl
  | x :: xs => by
    unfold dd
    split
    · rename_i h
      rw [mem_dd, List.mem_cons]
      exact ⟨.inr, fun z => z.elim (fun e => e ▸ h) id⟩
    · rw [List.mem_cons, List.mem_cons, mem_dd]
theorem nodup_dd {α : Type} [DecidableEq α] : ∀ xs : List α, (dd xs).Nodup
  | [] => List.nodup_nil
  | x :: xs => by
    unfold dd
    split
    · exact nodup_dd xs
    · rename_i h
      exact List.nodup_cons.mpr ⟨fun z => h (mem_dd.mp z), nodup_dd xs⟩
def tsort (nss : List (List Int)) : List (List Int) := nss.mergeSort fun a b => !lxLt b a
def tset (nss : List (List Int)) : List (List Int) := tsort (dd nss)
def iset (ns : List Int) : List Int := isort (dd ns)
theorem tsort_perm (nss : List (List Int)) : (tsort nss).Perm nss := List.mergeSort_perm _ _
theorem tsort_sorted (nss : List (List Int)) : (tsort nss).Pairwise fun a b => lxLt b a = false := by
  have h := List.pairwise_mergeSort (le := fun a b : List Int => !lxLt b a) (fun a b c h1 h2 => by
    simp only [Bool.not_eq_true'] at *
    cases e : lxLt c a with
    | false => rfl
    | true =>
      cases e2 : lxLt a b with
      | true => rw [lxLt_trans e e2] at h2; cases h2
      | false =>
        rw [lxLt_tri e2 h1] at e
        rw [e] at h2
        cases h2) (fun a b => by
    cases e : lxLt b a with
    | false => simp
    | true =>
      cases e2 : lxLt a b with
      | false => simp
      | true => have := lxLt_trans e e2; rw [lxLt_irr] at this; cases this) nss
  exact h.imp fun h => by simpa using h
theorem lex_unique : ∀ {a b : List (List Int)}, a.Perm b → a.Pairwise (fun x y => lxLt y x = false) → b.Pairwise (fun x y => lxLt y x = false) → a = b
  | [], b, p, _, _ => List.Perm.nil_eq p
  | x :: a, [], p, _, _ => absurd p.length_eq (by simp)
  | x :: a, y :: b, p, ha, hb => by
    have h1 : lxLt x y = false := by
      have : x ∈ y :: b := p.subset List.mem_cons_self
      rcases List.mem_cons.mp this with e | h
      · rw [e, lxLt_irr]
      · exact (List.pairwise_cons.mp hb).1 x h
    have h2 : lxLt y x = false := by
      have : y ∈ x :: a := p.symm.subset List.mem_cons_self
      rcases List.mem_cons.mp this with e | h
      · rw [e, lxLt_irr]
      · exact (List.pairwise_cons.mp ha).1 y h
    have e := lxLt_tri h1 h2
    subst e
    rw [lex_unique (List.perm_cons _ |>.mp p) (List.pairwise_cons.mp ha).2 (List.pairwise_cons.mp hb).2]
theorem iset_of {ns ns' : List Int} (h1 : ns'.Pairwise (· < ·)) (h2 : ∀ k, k ∈ ns' ↔ k ∈ ns) : ns' = iset ns := by
  refine sorted_unique (((List.perm_ext_iff_of_nodup (h1.imp fun h => by omega) (nodup_dd ns)).mpr fun k => by rw [h2, mem_dd]).trans (isort_perm _).symm) (h1.imp fun h => by omega) (isort_sorted _)
theorem tset_of {nss nss' : List (List Int)} (h0 : nss'.Nodup) (h1 : nss'.Pairwise fun a b => lxLt b a = false) (h2 : ∀ k, k ∈ nss' ↔ k ∈ nss) : nss' = tset nss :=
  lex_unique (((List.perm_ext_iff_of_nodup h0 (nodup_dd nss)).mpr fun k => by rw [h2, mem_dd]).trans (tsort_perm _).symm) h1 (tsort_sorted _)

section
variable {K : PySem.W.Frag} {W : Wt} {Δ : List Kd}
theorem rpA_tups {F : Addr → Prop} {H : Hp} : ∀ {xs : List V} {ds : List Dt} {nss : List (List Int)}, RpA K F H xs ds → allT ds = some nss → ∃ ts : List (Addr × List Int), xs = ts.map (fun p => V.ref p.1) ∧ ts.map (·.2) = nss ∧ ∀ p ∈ ts, SqT K H p.1 (p.2.map V.int)
  | _, _, _, .nil, e => by cases e; exact ⟨[], rfl, rfl, fun p hp => nomatch hp⟩
  | _, _, nss, .cons (d := d) (ds := ds) h r, e => by
    cases h with
    | @tup a ys es hs hr =>
      unfold allT at e
      cases ei : allI es with
      | none => rw [ei] at e; cases e
      | some ns =>
        rw [ei] at e
        cases et : allT ds with
        | none => rw [et] at e; cases e
        | some ms =>
          rw [et] at e
          cases e
          obtain ⟨ts, e1, e2, e3⟩ := rpA_tups r et
          refine ⟨(a, ns) :: ts, by rw [List.map_cons, e1], by rw [List.map_cons, e2], fun p hp => ?_⟩
          rcases List.mem_cons.mp hp with z | z
          · rw [z]
            rw [rp_ints hr ei] at hs
            exact hs
          · exact e3 p z
    | _ => cases e
theorem rpA_of_tups {F : Addr → Prop} {H : Hp} : ∀ ts : List (Addr × List Int), (∀ p ∈ ts, SqT K H p.1 (p.2.map V.int)) → RpA K F H (ts.map fun p => V.ref p.1) ((ts.map (·.2)).map encL)
  | [], _ => .nil
  | p :: ts, h => .cons (.tup (h p List.mem_cons_self) (rpA_ints _)) (rpA_of_tups ts fun q hq => h q (List.mem_cons_of_mem _ hq))
/-- none is empty, fewer than 64 -/
def okT0 (nss : List (List Int)) : Bool := nss.all (fun ns => !ns.isEmpty) && decide (nss.length < 64)
def hSortT : Dt → O Dt := fun d => match d with
  | .list xs => match allT xs with
    | some nss => if okT0 nss = true then .ok (.list ((tsort nss).map encL)) else .bad
    | none => .bad
  | _ => .bad
def hSortSetT : Dt → O Dt := fun d => match d with
  | .list xs => match allT xs with
    | some nss => if okT0 nss = true then .ok (.list ((tset nss).map encL)) else .bad
    | none => .bad
  | _ => .bad
def hSortSetI : Dt → O Dt := fun d => match d with
  | .list xs => match allI xs with
    | some ns => if ns.length < 64 then .ok (.list ((iset ns).map .int)) else .bad
    | none => .bad
  | _ => .bad
theorem okT0_ne {nss : List (List Int)} (h : okT0 nss = true) : (∀ ns ∈ nss, ns ≠ []) ∧ nss.length < 64 := by
  unfold okT0 at h
  rw [Bool.and_eq_true, List.all_eq_true, decide_eq_true_eq] at h
  exact ⟨fun ns hn e => by have := h.1 ns hn; rw [e] at this; simp at this, h.2⟩
theorem se_sortT {tA : TA} {gA : List Dt → O (List Dt)} {av fr : Bool} (ha : SA K W Δ tA av fr gA) : SE K W Δ (tCB (rSortL K) tA) (.new .l true) (gCB (one hSortT) gA) := fun f ρ σ H Q R q => by
  refine ha f ρ σ H _ R ?_
  unfold gCB at q
  cases e1 : gA ρ with
  | bad => rw [e1] at q; exact q
  | ex z => rw [e1] at q; exact q
  | ok ds =>
    rw [e1, bnd_ok] at q
    intro vs H1 s1 x1
    rcases one_eq (h := hSortT) (ds := ds) with ⟨d, rfl, e⟩ | e
    · rw [e] at q
      cases x1 with
      | cons x1 xr =>
        cases xr
        cases d with
        | list es =>
          unfold hSortT at q
          simp only at q
          cases ea : allT es with
          | none => rw [ea] at q; exact q.elim
          | some nss =>
            rw [ea] at q
            simp only at q
            by_cases hk : okT0 nss = true
            · rw [if_pos hk] at q
              obtain ⟨a, xs, rfl, hs, r⟩ := x1.sql
              obtain ⟨ts, rfl, rfl, h3⟩ := rpA_tups r ea
              obtain ⟨k1, k2⟩ := okT0_ne hk
              rw [List.length_map] at k2
              refine ⟨a, ts, rfl, hs, k2, fun p hp => ⟨h3 p hp, k1 _ (List.mem_map.mpr ⟨p, hp, rfl⟩)⟩, fun L' l pL pw nl => ?_⟩
              have e2 : tsort (ts.map (·.2)) = L'.map (·.2) := lex_unique ((tsort_perm _).trans (pL.map (·.2)).symm) (tsort_sorted _) (List.pairwise_map.mpr pw)
              rw [e2] at q
              exact q l _ (s1.free nl) (s1.trans (same_upd nl)) ⟨_, _, rfl, upd_same, rpA_of_tups L' fun p hp => sqt_same (same_upd nl) (h3 p (pL.mem_iff.mp hp))⟩
            · rw [if_neg hk] at q
              exact q.elim
        | _ => exact q.elim
    · rw [e] at q
      exact q.elim
theorem se_sortSetI {te : TE} {g : Gd} {av fr : Bool} (ha : SE K W Δ te (.v av fr) g) : SE K W Δ (tSortSetI K te) (.new .l true) (gUn hSortSetI g) := fun f ρ σ H Q R q => by
  refine ha f ρ σ H _ R ?_
  unfold gUn at q
  cases e1 : g ρ with
  | bad => rw [e1] at q; exact q
  | ex z => rw [e1] at q; exact q
  | ok d =>
    rw [e1, bnd_ok] at q
    intro v H1 s1 x1
    cases d with
    | list es =>
      unfold hSortSetI at q
      simp only at q
      cases ea : allI es with
      | none => rw [ea] at q; exact q.elim
      | some ns =>
        rw [ea] at q
        simp only at q
        by_cases hl : ns.length < 64
        · rw [if_pos hl] at q
          obtain ⟨c, xs, rfl, hs, r⟩ := x1.sql
          rw [rp_ints r ea] at hs
          refine ⟨c, ns, rfl, hs, hl, fun ns' p h1 h2 np => ?_⟩
          rw [← iset_of h1 h2] at q
          exact q p _ (s1.free np) (s1.trans (same_upd np)) ⟨_, _, rfl, upd_same, rpA_ints _⟩
        · rw [if_neg hl] at q
          exact q.elim
    | _ => exact q.elim
theorem se_sortSetT {te : TE} {g : Gd} {av fr : Bool} (ha : SE K W Δ te (.v av fr) g) : SE K W Δ (tSortSetT K te) (.new .l true) (gUn hSortSetT g) := fun f ρ σ H Q R q => by
  refine ha f ρ σ H _ R ?_
  unfold gUn at q
  cases e1 : g ρ with
  | bad => rw [e1] at q; exact q
  | ex z => rw [e1] at q; exact q
  | ok d =>
    rw [e1, bnd_ok] at q
    intro v H1 s1 x1
    cases d with
    | list es =>
      unfold hSortSetT at q
      simp only at q
      cases ea : allT es with
      | none => rw [ea] at q; exact q.elim
      | some nss =>
        rw [ea] at q
        simp only at q
        by_cases hk : okT0 nss = true
        · rw [if_pos hk] at q
          obtain ⟨c, xs, rfl, hs, r⟩ := x1.sql
          obtain ⟨ts, rfl, rfl, h3⟩ := rpA_tups r ea
          obtain ⟨k1, k2⟩ := okT0_ne hk
          rw [List.length_map] at k2
          refine ⟨c, ts, rfl, hs, fun p hp => ⟨h3 p hp, k1 _ (List.mem_map.mpr ⟨p, hp, rfl⟩)⟩, k2, fun L p h1 h2 h4 h5 np => ?_⟩
          have e2 : L.map (·.2) = tset (ts.map (·.2)) := tset_of h4 (List.pairwise_map.mpr h5) fun k => ⟨fun hk => by
            obtain ⟨y, hy, e⟩ := List.mem_map.mp hk
            exact List.mem_map.mpr ⟨y, h1 y hy, e⟩, fun hk => by
            obtain ⟨y, hy, e⟩ := List.mem_map.mp hk
            rw [← e]
            exact h2 y hy⟩
          rw [← e2] at q
          exact q p _ (s1.free np) (s1.trans (same_upd np)) ⟨_, _, rfl, upd_same, rpA_of_tups L fun y hy => sqt_same (same_upd np) (h3 y (h1 y hy))⟩
        · rw [if_neg hk] at q
          exact q.elim
    | _ => exact q.elim
/-- tuple(range) -/
def gTpI (gI : List Dt → O (List Dt)) : Gd := fun ρ => bnd (gI ρ) fun ds => if ds.length ≤ 100000 then .ok (.tuple ds) else .bad
theorem se_trng1 {te : TE} {g : Gd} {av fr : Bool} (ha : SE K W Δ te (.v av fr) g) : SE K W Δ (tTupRg (tRg1 te)) (.v true true) (gTpI (gRng1 (gCons g gNil))) := fun f ρ σ H Q R q => by
  refine ha f ρ σ H _ R ?_
  unfold gTpI gRng1 gCons gNil at q
  cases e1 : g ρ with
  | bad => rw [e1] at q; exact q
  | ex z => rw [e1] at q; exact q
  | ok d =>
    rw [e1, bnd_ok, bnd_ok, bnd_ok] at q
    intro v H1 s1 x1
    cases er : rng1 [d] with
    | none => rw [er] at q; exact q.elim
    | some p =>
      rw [er] at q
      unfold rng1 at er
      split at er
      · split at er
        · rename_i hj
          obtain ⟨e, e'⟩ := List.cons.inj ‹[d] = _›
          rename_i j h2
          cases er
          subst e
          rw [rpInt x1]
          simp only [bnd_ok] at q
          by_cases l : (rangeD 0 j).length ≤ 100000
          · rw [if_pos l] at q
            rw [rangeD_len] at l
            refine ⟨j, rfl, ⟨by omega, by omega, hj.1, hj.2, by omega⟩, fun p np => q (.ref p) _ (s1.trans (same_upd np)) (.tup (.inl (.inl upd_same)) ?_)⟩
            exact rpA_mapInt _ _
          · rw [if_neg l] at q
            exact q.elim
        · cases er
      · cases er
variable {X : Cx} {a e : Expr} {es : List Expr} {te : TE} {tA : TA} {g : Gd} {gA : List Dt → O (List Dt)} {av fr : Bool} {p p2 q pos : Pos}
theorem x_sortT {x : Str} (hm : X.mg x = none) (h : AD X K W Δ (e :: es) tA av fr gA) (hv : bootBuiltins x = some (.builtin "sorted") := by decide +kernel) (hg : Gl X x := by rfl) (hn : x ≠ "__name__" := by decide) (hdb : (x == ("__debug__" : Str)) = false := by decide)
    (he : starEach (e :: es) X.env = (false, eval e X.env) :: starEach es X.env := by rfl) (hpl : (backTo pos (starEach es X.env)).any (·.1) = false := by rfl) :
    PD X K W Δ (.Call (.Name x p) (e :: es) [] pos) (tCB (rSortL K) tA) (.new .l true) (gCB (one hSortT) gA) :=
  ⟨pe_callB (by have q := cr_sortL (X := X); rw [h.hK] at q; exact q) hg hm hv h.pa hn hdb he hpl, h.hK, se_sortT h.sa⟩
theorem x_sortSetI (hm : X.mg "sorted" = none) (hm2 : X.mg "set" = none) (h : PD X K W Δ a te (.v av fr) g) (hc : X.calm = true := by rfl) (hg : Gl X "sorted" := by rfl) (hg2 : Gl X "set" := by rfl) (na : starEach [a] X.env = (false, eval a X.env) :: starEach [] X.env := by rfl) :
    PD X K W Δ (.Call (.Name "sorted" p) [.Call (.Name "set" p2) [a] [] q] [] pos) (tSortSetI K te) (.new .l true) (gUn hSortSetI g) := ⟨by have w := pe_sortSetI (X := X) (p := p) (p2 := p2) (q := q) (pos := pos) hc hg hm hg2 hm2 h.pe na; rw [h.hK] at w; exact w, h.hK, se_sortSetI h.se⟩
theorem x_sortSetT {kk : Nat} (hr : Room kk X.A) (hm : X.mg "sorted" = none) (hm2 : X.mg "set" = none) (h : PD X K W Δ a te (.v av fr) g) (hc : X.calm = true := by rfl) (hg : Gl X "sorted" := by rfl) (hg2 : Gl X "set" := by rfl) (na : starEach [a] X.env = (false, eval a X.env) :: starEach [] X.env := by rfl) :
    PD X K W Δ (.Call (.Name "sorted" p) [.Call (.Name "set" p2) [a] [] q] [] pos) (tSortSetT K te) (.new .l true) (gUn hSortSetT g) := ⟨by have w := pe_sortSetT (X := X) (p := p) (p2 := p2) (q := q) (pos := pos) hc hr.units hg hm hg2 hm2 h.pe na; rw [h.hK] at w; exact w, h.hK, se_sortSetT h.se⟩
theorem x_trng1 {pos2 : Pos} (hm : X.mg "tuple" = none) (hm2 : X.mg "range" = none) (h : PD X K W Δ a te (.v av fr) g) (hc : X.calm = true := by rfl) (hg : Gl X "tuple" := by rfl) (hg2 : Gl X "range" := by rfl)
    (na : starEach [a] X.env = (false, eval a X.env) :: starEach [] X.env := by rfl) (na2 : starEach [.Call (.Name "range" p2) [a] [] pos2] X.env = (false, eval (.Call (.Name "range" p2) [a] [] pos2) X.env) :: starEach [] X.env := by rfl) :
    PD X K W Δ (.Call (.Name "tuple" p) [.Call (.Name "range" p2) [a] [] pos2] [] pos) (tTupRg (tRg1 te)) (.v true true) (gTpI (gRng1 (gCons g gNil))) := ⟨pe_tupRg hc hg hm (prg_1 hg2 hm2 h.pe na) na2, h.hK, se_trng1 h.se⟩
end
end Sim
end T_SimU

section T_SimV
set_option Elab.async false
set_option linter.all false
set_option maxRecDepth 100000
/-! SimV: {k: v}, d.get(k), is None, tuple + tuple, sorted(set(tuple of ints)). -/
namespace Sim
open PySem PySem.Spec L2
open PyProof.Rows hiding St

/-- {k: v} -/
def gDNew1 (gk gv : Gd) : Gd := fun ρ => bnd (gk ρ) fun kd => match keyOf kd with
  | some k => bnd (gv ρ) fun v => .ok (.dict [(keyD k, v)])
  | none => .bad
/-- d.get(k) -/
def gDGetN (i : Nat) (gk : Gd) : Gd := fun ρ => match dAt ρ i with
  | some es => bnd (gk ρ) fun kd => (match keyOf kd with
    | some k => .ok ((dGet es k).getD .none)
    | none => .bad)
  | none => .bad
section
variable {K : PySem.W.Frag} {W : Wt} {Δ : List Kd} {tk tv ti ta tb : TE} {gk gv ga gb g : Gd} {fr fr' av : Bool} {i : Nat}
theorem se_dnew1 (hk : SE K W Δ tk (.v av fr') gk) (hv : SE K W Δ tv (.v true fr) gv) : SE K W Δ (tDisp [(tk, tv)]) (.new .dk fr) (gDNew1 gk gv) := fun f ρ σ H Q R q => by
  intro p np
  have s0 : Same H (upd H p (.dK [])) := same_upd np
  refine hk f ρ σ _ _ (R.mono s0) ?_
  unfold gDNew1 at q
  cases e1 : gk ρ with
  | bad => rw [e1] at q; exact q
  | ex z => rw [e1] at q; exact fun H' s => q H' (s0.trans s)
  | ok kd =>
    rw [e1, bnd_ok] at q
    intro kv H1 s1 xk
    refine hv { f with P := p :: f.P } ρ σ H1 _ ((R.addP (o := .dK []) np trivial).mono s1) ?_
    cases ek : keyOf kd with
    | none => rw [ek] at q; exact q.elim
    | some k =>
      rw [ek] at q
      dsimp only at q
      cases e2 : gv ρ with
      | bad => rw [e2] at q; exact q
      | ex z => rw [e2] at q; exact fun H' s => q H' ((s0.trans s1).trans s)
      | ok d =>
        rw [e2, bnd_ok] at q
        intro v H2 s2 x2
        have s12 := s1.trans s2
        have hp : H2 p = some (.dK []) := s12 _ _ upd_same
        have sf : Same H (upd H2 p (.dK [(k, v)])) := fun b o e => by
          rw [upd_ne (ne_of_none e np)]
          exact (s0.trans s12) b o e
        refine ⟨hp, [(k, v)], by rw [kV_keyOf xk ek]; rfl, by show 1 ≤ 15; omega, ?_⟩
        have em : mergeK [] [(k, v)] = [(k, v)] := rfl
        rw [em]
        refine q p _ np sf ⟨_, _, rfl, upd_same, .cons ?_ .nil⟩
        exact Rp.updM hp trivial (fun a fa => fa.2) (x2.weak fun a fa => ⟨⟨fun e => ⟨(fa.1 e).1, fun z => (fa.1 e).2 (List.mem_cons_of_mem _ z)⟩, fa.2⟩, fun z => (fa.1 rfl).2 (z ▸ List.mem_cons_self)⟩)
theorem se_dgetN (hk : Δ[i]? = some (.own .dk fr)) (h : SE K W Δ ti (.v av fr') gk) : SE K W Δ (tDGet1 (tVar i) ti) (.v true fr) (gDGetN i gk) := fun f ρ σ H Q r q => by
  unfold gDGetN at q
  cases ed : dAt ρ i with
  | none => rw [ed] at q; exact q.elim
  | some es =>
    rw [ed] at q
    obtain ⟨p, kvs, g1, g3, g4, g5⟩ := dk_own r hk ed
    refine ⟨_, g1, p, rfl, .inl ⟨kvs, .inl g4⟩, h f ρ σ H _ r ?_⟩
    simp only at q
    cases e2 : gk ρ with
    | bad => rw [e2] at q; exact q
    | ex z => rw [e2] at q; exact q
    | ok kd =>
      rw [e2, bnd_ok] at q
      intro kv H1 s1 xk
      cases ek : keyOf kd with
      | none => rw [ek] at q; exact q.elim
      | some k =>
        rw [ek] at q
        simp only at q
        rw [kV_keyOf xk ek]
        refine ⟨valV kvs k, DGet.k (s1 _ _ g4), ?_⟩
        rcases g5.get k with ⟨e1, e⟩ | ⟨v, d, e1, e, x⟩
        · rw [e1]
          rw [e] at q
          exact q .non H1 s1 .non
        · rw [e1]
          rw [e] at q
          exact q v H1 s1 (x.same s1)
/-- tuple + tuple -/
def hCatT : Dt → Dt → O Dt := fun d e => match d, e with
  | .tuple xs, .tuple ys => if xs.length + ys.length ≤ 100000 then .ok (.tuple (xs ++ ys)) else .bad
  | _, _ => .bad
theorem se_catT (ha : SE K W Δ ta (.v av fr) ga) (hb : SE K W Δ tb (.v av fr) gb) : SE K W Δ (tOp (rCatA K) ta tb) (.v av fr) (gOp hCatT ga gb) := fun f ρ σ H Q R q => by
  refine ha f ρ σ H _ R ?_
  unfold gOp at q
  cases e1 : ga ρ with
  | bad => rw [e1] at q; exact q
  | ex z => rw [e1] at q; exact q
  | ok d =>
    rw [e1, bnd_ok] at q
    intro v H1 s1 x1
    refine hb f ρ σ H1 _ (R.mono s1) ?_
    cases e2 : gb ρ with
    | bad => rw [e2] at q; exact q
    | ex z => rw [e2] at q; exact fun H' s => q H' (s1.trans s)
    | ok d2 =>
      rw [e2, bnd_ok] at q
      intro v2 H2 s2 x2
      have s12 := s1.trans s2
      unfold hCatT at q
      split at q
      · split at q
        · rename_i hz
          obtain ⟨a, xs, rfl, hs, r⟩ := (x1.same s2).sqt
          obtain ⟨b, ys, rfl, hs2, r2⟩ := x2.sqt
          refine ⟨a, b, xs, ys, rfl, rfl, hs, hs2, sz_le (by rw [r.length, r2.length]; exact hz), fun e => ?_, fun _ e => ?_, fun _ _ p np => ?_⟩
          · subst e
            cases r
            exact q _ H2 s12 (.tup hs2 r2)
          · subst e
            cases r2
            refine q _ H2 s12 (.tup hs ?_)
            rw [List.append_nil]
            exact r
          · exact q _ _ (s12.trans (same_upd np)) (.tup (.inl (.inl upd_same)) ((r.append r2).same (same_upd np)))
        · exact q.elim
      · exact q.elim
end
/-- sorted(set(t)), t a tuple of ints -/
def tSortSetU (K : PySem.W.Frag) (te : TE) : TE := fun σ H Q => te σ H fun x H1 => ∃ (l : Addr) (ns : List Int), x = V.ref l ∧ SqT K H1 l (ns.map V.int) ∧ ns.length < 64 ∧
  ∀ (ns' : List Int) (p : Addr), ns'.Pairwise (· < ·) → (∀ k, k ∈ ns' ↔ k ∈ ns) → H1 p = none → Q (.ref p) (upd H1 p (.lst (ns'.map V.int)))
def hSortSetU : Dt → O Dt := fun d => match d with
  | .tuple xs => match allI xs with
    | some ns => if ns.length < 64 then .ok (.list ((iset ns).map .int)) else .bad
    | none => .bad
  | _ => .bad
section
variable {X : Cx} {a : Expr} {ta te : TE} {p p2 q pos : Pos}
theorem pe_sortSetU (hc : X.calm = true) (hg : Gl X "sorted") (hm : X.mg "sorted" = none) (hg2 : Gl X "set") (hm2 : X.mg "set" = none) (ha : PE X a ta)
    (na : starEach [a] X.env = (false, eval a X.env) :: starEach [] X.env := by rfl) : PE X (.Call (.Name "sorted" p) [.Call (.Name "set" p2) [a] [] q] [] pos) (tSortSetU X.K ta) := by
  refine ⟨fun pins s σ H Q I h => ?_⟩
  refine Call_ (ld_blt I hg hm (by decide +kernel : bootBuiltins "sorted" = some (.builtin "sorted")) ?_)
  refine PyProof.Rows.callWith_builtin1 (PyProof.Rows.args_cons ?_ rfl) rfl rfl
  refine Call_ (ld_blt I hg2 hm2 PyProof.Rows.boot_set ?_)
  refine PyProof.Rows.callWith_type1 (PyProof.Rows.args_cons (thn (ha.run pins s σ H _ I h) fun v s1 ⟨x, H1, I1, r1, q1⟩ => PyProof.Rows.args_nil ?_) na) na rfl
  obtain ⟨l, ns, rfl, hq, h1, q1⟩ := q1
  cases r1
  obtain ⟨its, r, pl, hz⟩ := I1.tuple hq
  refine call_set_tupI ns (I1.ok.hd hc) pl (by simpa using r.ints) (by unfold scanBound; omega) fun h' tk c hS hcl hk => ?_
  have I2 : Inv X pins σ H1 { s1 with heap := h', toks := tk } := I1.kept hk
  refine PyProof.Rows.args_nil ?_
  refine sorted_set (s := { s1 with heap := h', toks := tk }) hS (I1.ok.hd hc) (by omega) fun s' p' out c' ns' k g o hp hgt hI hpw hmem hlen => ?_
  have hn : H1 p' = none := I2.hok.fresh hp
  have hle : (ns'.map V.int).length ≤ sizeLine := by rw [List.length_map, sizeLine_eq]; omega
  have J : Inv X pins σ (upd H1 p' (.lst (ns'.map V.int))) { ({ s1 with heap := h', toks := tk } : Shared) with heap := s'.heap, gens := s'.gens, drawn := s'.drawn, toks := s'.toks } :=
    I2.call (ch := []) (Un.laid k hp hn) (I2.hok.laid k hp ⟨hle, out.toList, c', vals_of_ints hI, hgt⟩) (by rw [g]; exact I2.bare) (fun _ z => nomatch z)
  have e : s' = { ({ s1 with heap := h', toks := tk } : Shared) with heap := s'.heap, gens := s'.gens, drawn := s'.drawn, toks := s'.toks } := by
    cases s'
    cases s1
    cases o
    rfl
  rw [e]
  exact ⟨.ref p', _, J, rfl, q1 ns' p' hpw (fun k => by rw [hmem k, decide_eq_true_eq]) hn⟩
end
section
variable {X : Cx} {K : PySem.W.Frag} {W : Wt} {Δ : List Kd} {a b e : Expr} {te ti tk tv ta tb : TE} {g gk gv ga gb : Gd} {fr fr' av : Bool} {pos p p2 q apos cpos : Pos} {x : Str} {m : Nat}
theorem se_sortSetU (ha : SE K W Δ te (.v av fr) g) : SE K W Δ (tSortSetU K te) (.new .l true) (gUn hSortSetU g) := fun f ρ σ H Q R q => by
  refine ha f ρ σ H _ R ?_
  unfold gUn at q
  cases e1 : g ρ with
  | bad => rw [e1] at q; exact q
  | ex z => rw [e1] at q; exact q
  | ok d =>
    rw [e1, bnd_ok] at q
    intro v H1 s1 x1
    cases d with
    | tuple es =>
      unfold hSortSetU at q
      simp only at q
      cases ea : allI es with
      | none => rw [ea] at q; exact q.elim
      | some ns =>
        rw [ea] at q
        simp only at q
        by_cases hl : ns.length < 64
        · rw [if_pos hl] at q
          obtain ⟨c, xs, rfl, hs, r⟩ := x1.sqt
          rw [rp_ints r ea] at hs
          refine ⟨c, ns, rfl, hs, hl, fun ns' p h1 h2 np => ?_⟩
          rw [← iset_of h1 h2] at q
          exact q p _ (s1.free np) (s1.trans (same_upd np)) ⟨_, _, rfl, upd_same, rpA_ints _⟩
        · rw [if_neg hl] at q
          exact q.elim
    | _ => exact q.elim
theorem x_sortSetU (hm : X.mg "sorted" = none) (hm2 : X.mg "set" = none) (h : PD X K W Δ a te (.v av fr) g) (hc : X.calm = true := by rfl) (hg : Gl X "sorted" := by rfl) (hg2 : Gl X "set" := by rfl) (na : starEach [a] X.env = (false, eval a X.env) :: starEach [] X.env := by rfl) :
    PD X K W Δ (.Call (.Name "sorted" p) [.Call (.Name "set" p2) [a] [] q] [] pos) (tSortSetU K te) (.new .l true) (gUn hSortSetU g) := ⟨by have w := pe_sortSetU (X := X) (p := p) (p2 := p2) (q := q) (pos := pos) hc hg hm hg2 hm2 h.pe na; rw [h.hK] at w; exact w, h.hK, se_sortSetU h.se⟩
theorem x_dnew1 (hk : PD X K W Δ a tk (.v av fr') gk) (hv : PD X K W Δ b tv (.v true fr) gv) : PD X K W Δ (.Dict [some a] [b] pos) (tDisp [(tk, tv)]) (.new .dk fr) (gDNew1 gk gv) :=
  ⟨pe_disp (pps_cons hk.pe hv.pe pps_nil) rfl rfl (fun h => nomatch h) (by show 1 ≤ 15; omega), hk.hK, se_dnew1 hk.se hv.se⟩
theorem x_dgetN (i : Nat) (hr : Room m X.A) (h : PD X K W Δ e te (.v av fr') g) (hk : Δ[i]? = some (.own .dk fr) := by rfl) (hv : Vis X.env.scope x := by first | exact Or.inl rfl | exact Or.inr (Or.inl rfl) | exact Or.inr (Or.inr rfl)) (hN : X.N[i]? = some x := by rfl) (hd : (x == ("__debug__" : Str)) = false := by decide) (hcd : (x == ("__classdict__" : Str)) = false := by decide)
    (m1 : attributeBase (.Name x p) "get" X.env (eval (.Name x p) X.env) = eval (.Name x p) X.env := by rfl)
    (m2 : ((backTo cpos (starEach [e] X.env)).all (fun x => !x.1) && (backToKw cpos (keywordEach [] X.env)).all (fun x => x.1.isSome) && decide (([e] : List Expr).length + ([] : List Keyword).length + (if ([] : List Keyword).isEmpty then 0 else 1) < 30)) = true := by rfl)
    (m3 : (apos.endLine == cpos.line) = true := by rfl) (m4 : backTo cpos (starEach [e] X.env) = [(false, eval e X.env)] := by rfl) :
    PD X K W Δ (.Call (.Attribute (.Name x p) "get" apos) [e] [] cpos) (tDGet1 (tVar i) te) (.v true fr) (gDGetN i g) := ⟨pe_dget1 (by have := hr.un; omega) (pe_var hN hv hd hcd) h.pe ⟨m1, m2, m3, m4⟩, h.hK, se_dgetN hk h.se⟩
theorem x_catT (ha : PD X K W Δ a ta (.v av fr) ga) (hb : PD X K W Δ b tb (.v av fr) gb) : PD X K W Δ (.BinOp a .Add b pos) (tOp (rCatA K) ta tb) (.v av fr) (gOp hCatT ga gb) :=
  ⟨pe_op (by have q := op_catA (X := X); rw [ha.hK] at q; exact q) ha.pe hb.pe, ha.hK, se_catT ha.se hb.se⟩
end
end Sim
end T_SimV

section T_SimX
set_option Elab.async false
set_option linter.all false
set_option maxRecDepth 100000
/-! SimX: refusals: raise, calls that may raise, try .. except X as n, isinstance of what was caught. -/
namespace Sim
open PySem PySem.Spec L2
open PyProof.Rows hiding St

/-! ### a caught exception, tracked -/
theorem exH_ok {P : Program} {w : World} {H : Hp} {h : Heap} {a : Addr} {cls : Value} {d : Option Addr} {oe : Obj} {vs : Array Value} (e : h.get? a = some oe) (z : Zc cls d oe) (dd : oe.data = .fields vs) : ObjOk P w H h a (ExH cls d a) :=
  ⟨⟨oe, vs, e, z, dd⟩, ⟨oe, e⟩, fun _ _ ⟨o, v, q, r⟩ k => ⟨o, v, k o q, r⟩⟩
section
variable {X : Cx} {pins : List (Addr × Obj)} {σ : L2.St} {H : Hp} {s : Shared}
theorem inv_note {a : Addr} {oe : Obj} {vs : Array Value} {cls : Value} {d : Option Addr} (I : Inv X pins σ H s) (he : s.heap.get? a = some oe) (hz : Zc cls d oe) (hd : oe.data = .fields vs) (na : H a = none)
    (n0 : X.s_0.heap.get? a = none) (nL : a ≠ X.env.locals) (np : ∀ p ∈ X.pn ++ pins, p.1 ≠ a) : Inv X pins σ (upd H a (ExH cls d a)) s := by
  refine ⟨I.ok, I.os, I.bare, ⟨I.base.keep, I.base.slot, fun b o e n hx => ?_, I.base.there, fun b xs e => ?_, fun b o u e => ?_, fun b ps e => ?_⟩, I.loc, I.cell, ?_, fun x c e => ?_, fun p hp => ?_, I.hok.laidN (fun _ _ q => q) na (exH_ok he hz hd), I.len⟩
  · rw [upd_ne (fun z => by rw [z, n0] at e; cases e)]
    exact I.base.free b o e n hx
  · have q := I.base.tups b xs e
    rw [upd_ne (ne_of_none q na)]
    exact q
  · have q := I.base.frzs b o u e
    rw [upd_ne (ne_of_none q na)]
    exact q
  · obtain ⟨m, q⟩ := I.base.tbls b ps e
    exact ⟨m, by rw [upd_ne (ne_of_none q na)]; exact q⟩
  · rw [upd_ne (Ne.symm nL)]
    exact I.free
  · rw [upd_ne ?_]
    · exact I.freeC x c e
    · intro z
      obtain ⟨v, o, ho, hdd⟩ := I.cell x c e
      rw [z, he] at ho
      cases ho
      rw [hd] at hdd
      cases hdd
  · obtain ⟨e, n, ne, nf, d⟩ := I.pin p hp
    exact ⟨e, by rw [upd_ne (np p hp)]; exact n, ne, nf, d⟩
theorem inv_suite (I : Inv X pins σ H s) (a : Addr) : Inv (X.suite a (X.pn ++ pins)) [] σ H s :=
  ⟨I.ok.suite _ _, I.os, I.bare, I.base, I.loc, I.cell, I.free, I.freeC, fun p hp => I.pin p (by rw [List.append_nil] at hp; exact hp), I.hok, I.len⟩
theorem inv_unsuite {a : Addr} {pn' : List (Addr × Obj)} (I : Inv (X.suite a (X.pn ++ pins)) pn' σ H s) (ok : X.Ok) : Inv X pins σ H s :=
  ⟨ok, I.os, I.bare, I.base, I.loc, I.cell, I.free, I.freeC, fun p hp => I.pin p (List.mem_append_left _ hp), I.hok, I.len⟩
end

/-- slot i is forgotten at an end -/
def goneE (i : Nat) (D : Ends) : Ends := { nx := fun σ H => D.nx (σ.set i none) H, rt := D.rt, bk := fun σ H => D.bk (σ.set i none) H, ct := fun σ H => D.ct (σ.set i none) H }
/-- what 'except c as n' wishes of an exception of the body; slot i is n's -/
def wX (K : PySem.W.Frag) (c : Value) (i : Nat) (ts : TS) (Wout : WX) (D : Ends) : WX := fun cls d σ H =>
  ∃ b, PySem.W.exmOne K cls c = some b ∧ (b = true → ∀ a, H a = none → ts (goneE i D) (σ.set i (some (.ref a))) (upd H a (ExH cls d a))) ∧ (b = false → Wout cls d σ H)
section
variable {X : Cx} {x n : Str} {c : Value} {i : Nat} {body suite : List Stmt} {b₀ : Stmt} {np pos pos' : Pos} {tb : WX → TS} {ts : TS} {Wout : WX}
theorem ps_tryX (hs : X.stack = X.env :: X.outer) (hf : X.env.frame = some X.env.locals) (hex : X.ex = []) (hN : X.N.Nodup) (hi : X.N[i]? = some n) (hln : X.env.kindOf n = some .local) (hc : Names X x c) (tk : Takes X Wout)
    (hb : ∀ (W : WX) (pn : List (Addr × Obj)) (xe : Value → Shared → Prop), Takes (X.tr pn xe) W → PSs (X.tr pn xe) body (tb W))
    (hsu : ∀ (a : Addr) (pn : List (Addr × Obj)), PSs (X.suite a pn) (b₀ :: suite) ts) :
    PS X (.Try body [.ExceptHandler (some (.Name x np)) (some n) (b₀ :: suite) pos'] [] [] pos) (fun D σ H => tb (wX X.K c i ts Wout D) D σ H) := by
  refine ⟨fun pins s σ H D I h => wpAny_Try_except ?_⟩
  have ok := I.ok
  have hfr : X.A.frames = some (X.env :: X.outer) := by rw [ok.frames, hs]
  have caught : Takes (X.tr (X.pn ++ pins) (fun e s₁ => wpAny (model X.prog X.w) X.A (noteFrame e X.env) (fun _ s₂ => wpAny (model X.prog X.w) X.A (setFlight e none) (fun _ s₃ =>
      wpAny (model X.prog X.w) X.A (handleBy e X.env [.ExceptHandler (some (.Name x np)) (some n) (b₀ :: suite) pos']) (SP X pins D) X.xe s₃) X.xe s₂) X.xe s₁)) (wX X.K c i ts Wout D) := by
    rintro u s' ⟨a, B, sI, pins', σ', H', cls, d, rfl, J', nb, up, sky, na, os, ag, b, hb1, hyes, hno⟩
    have J : Inv X pins σ' H' sI := J'.ofTry ok
    have sky' : Sky B (X.env :: X.outer) a (Zc cls d) X.env.locals s'.heap := by rw [← hs]; exact sky
    show wpAny _ X.A (noteFrame (.ref a) X.env) _ _ _
    refine Sky.land Zc.steady hfr hf sky' fun h3 fl3 up3 => ?_
    have J3 : Inv X pins σ' H' { s' with heap := h3 } := J.landed nb fl3.1 (up.trans up3) os ag
    obtain ⟨oe3, vs3, he3, hz3, hd3⟩ := fl3.there
    have nfr : a ∉ frs (X.env :: X.outer) := fun hm => by
      obtain ⟨_, o', e', hnf⟩ := fl3.2.2.1.mem hm
      rw [he3] at e'; cases e'
      exact hnf _ hd3
    have nL : a ≠ X.env.locals := fun z => nfr (List.mem_filterMap.mpr ⟨X.env, List.mem_cons_self, by rw [hf, z]⟩)
    have nB : B.get? a = none := fl3.2.1
    have inB : ∀ {y : Addr} {o : Obj}, sI.heap.get? y = some o → y = a → False := fun {y o} e z => by
      subst z
      have := nb y o e (by rw [hs]; exact nfr)
      rw [nB] at this; cases this
    have n0 : X.s_0.heap.get? a = none := by
      cases e : X.s_0.heap.get? a with
      | none => rfl
      | some o =>
        obtain ⟨o', q⟩ := J.base.there a o e (by rw [hex]; simp)
        exact (inB q rfl).elim
    have npin : ∀ p ∈ X.pn ++ pins, p.1 ≠ a := fun p hp z => inB (J.pin p hp).1 z
    have test : ∀ {Q : Value → Shared → Prop} {E : Value → Shared → Prop}, Q c { s' with heap := h3 } → wpAny (model X.prog X.w) (X.A.mark (some (.ref a))) (eval (.Name x np) X.env) Q E { s' with heap := h3 } := fun {Q E} q => by
      obtain ⟨hg, hdbg, hm | ⟨hm, hv, hnn⟩⟩ := hc
      · exact ld_glob (X := X.suite a (X.pn ++ pins)) (inv_suite J3 a) hg hm q hdbg
      · exact ld_blt (X := X.suite a (X.pn ++ pins)) (inv_suite J3 a) hg hm hv q hnn hdbg
    have LT : PySem.W.Looks (model X.prog X.w) h3 (typeOf (.ref a)) cls := fun A Q E s k q => wpAny_typeOf_ref (k _ _ he3) (by rw [hz3.1]; exact q)
    refine wpAny_handleBy_cons (codeAny_handlers_test (test ((PySem.W.exm_one (M := model X.prog X.w) J3.kIn LT hb1).here ?_))) (by intro q; cases q)
    cases b with
    | true =>
      refine codeAny_handlers_suite_as (HandSPX.lands_againZ fl3 fun h4 fl4 up4 => ?_)
      have J4 : Inv X pins σ' H' { s' with heap := h4 } := J.landed nb fl4.1 ((up.trans up3).trans up4) os ag
      obtain ⟨oe4, vs4, he4, hz4, hd4⟩ := fl4.there
      have J5 := inv_suite (inv_note J4 he4 hz4 hd4 na n0 nL npin) a
      refine store_ok (X := X.suite a (X.pn ++ pins)) (v := .ref a) J5 hN hi (.inl hln) rfl (fun s5 S5 => ?_) (.inr hln)
      refine wpAny_mono ((hsu a (X.pn ++ pins)).run [] s5 _ _ _ S5 (hyes rfl a na)) (fun f s6 hsp => ?_) (fun _ _ z => False.elim z)
      have fin : ∀ {σ6 : L2.St} {H6 : Hp} {Q : Shared → Prop}, Inv (X.suite a (X.pn ++ pins)) [] σ6 H6 s6 → (∀ s7, Inv X pins (σ6.set i none) H6 s7 → Q s7) →
          wpAny (model X.prog X.w) X.A (do bindName X.env n .none; unbindBehindTheSuite X.env n pos') (fun _ s7 => Q s7) X.xe s6 := fun {σ6 H6 Q} S6 hq => gone_ok (inv_unsuite S6 ok) hN hi hln hq
      cases f with
      | next =>
        obtain ⟨σ6, H6, S6, q6⟩ := hsp
        exact fin S6 fun s7 J7 => ⟨_, _, J7, q6⟩
      | brk =>
        obtain ⟨σ6, H6, S6, q6⟩ := hsp
        exact fin S6 fun s7 J7 => ⟨_, _, J7, q6⟩
      | cont =>
        obtain ⟨σ6, H6, S6, q6⟩ := hsp
        exact fin S6 fun s7 J7 => ⟨_, _, J7, q6⟩
      | ret u =>
        obtain ⟨v6, σ6, H6, S6, r6, q6⟩ := hsp
        exact fin S6 fun s7 J7 => ⟨_, _, _, J7, r6, q6⟩
    | false =>
      show wpAny _ X.A (handleBy (.ref a) X.env []) _ _ _
      refine wpAny_handleBy_nil ?_
      obtain ⟨k1, k2, k3, oe, vs, T, oT, ts', he, hz, hd, h1, hr⟩ := id fl3
      unfold PySem.passOn
      refine wpAny_bind (wpAny_field he hd h1 ?_)
      rw [if_neg (show ¬ ((Value.ref T == Value.none) = true) from by simp)]
      have on : wpAny (model X.prog X.w) X.A (setFlight (.ref a) X.env.frame) (fun _ s4 => wpAny (model X.prog X.w) X.A (throw (.ref a) : Sem Flow) (SP X pins D) X.xe s4) X.xe { s' with heap := h3 } := by
        rw [hf]
        refine HandSPX.setFlight_upZ fl3 fun h4 hh4 up4 => wpAny_throw (tk _ _ ?_)
        exact ⟨a, B, sI, pins, σ', H', cls, d, rfl, J, nb, (up.trans up3).trans up4, .inr (.inr (by rw [hs]; exact hh4)), na, os, ag, hno rfl⟩
      first
        | exact wpAny_bind (wpAny_pure (wpAny_bind on))
        | exact wpAny_bind on
  refine wpAny_mono ((hb _ (X.pn ++ pins) _ caught).run [] s σ H D (I.toTry _) h) (fun f s1 hsp => ?_) (fun e s1 he => he)
  cases f with
  | next =>
    obtain ⟨σ', H', J', q⟩ := hsp
    exact wpAny_execs_nil ⟨σ', H', J'.ofTry ok, q⟩
  | brk =>
    obtain ⟨σ', H', J', q⟩ := hsp
    exact ⟨σ', H', J'.ofTry ok, q⟩
  | cont =>
    obtain ⟨σ', H', J', q⟩ := hsp
    exact ⟨σ', H', J'.ofTry ok, q⟩
  | ret u =>
    obtain ⟨v, σ', H', J', r, q⟩ := hsp
    exact ⟨v, σ', H', J'.ofTry ok, r, q⟩
end

/-! ### an own class without arguments, made -/
theorem pmk_own0 {X : Cx} {C : Addr} {bmB : List Value} {B newId initId : String} {x : Str} {p pos : Pos} (F : ExcBaseFacts B newId initId bmB) (q : PySem.W.excIn X.K C bmB newId = true) (gC : X.mg x = some (.ref C)) (kC : PySem.W.keepIn X.K (.ref C) = true)
    (r : Raises X (.ref C)) (hg : Gl X x) (hdb : (x == ("__debug__" : Str)) = false := by decide) : PMk X (.Call (.Name x p) [] [] pos) (fun _ H Q => Q (.ref C) none H) := by
  intro pins s σ H Q I h
  refine wpAny_Call_Name_kw (ld_glob I hg gC ?_ hdb)
  refine PySem.W.callWith_K0 I.kIn kC ?_
  show wpAny _ _ (call (.ref C) []) _ _ _
  obtain ⟨bm, N, nm, qn, bs, hdct, sn, sub, ab, col, dd, k0, k1, k2, k3, k5, mN, hC, hN, hni, T⟩ := exc_obj I.kIn q
  refine wpAny_call_exc_subT F T hC hN hni (fun h' e hm => ?_) (Nat.zero_le _)
  exact mk_of I hm r h (I.hok.gone hm.new)
end Sim
end T_SimX

section T_SimXB
set_option Elab.async false
set_option linter.all false
set_option maxRecDepth 100000
/-! SimXB: the rules for refusals. -/
namespace Sim
open PySem PySem.Spec L2
open PyProof.Rows hiding St

/-- a body's wish about refusals, by the names of their classes -/
abbrev wtOf (mg : Str → Option Value) (Wx : WX) : Wt := fun e σ H => Wcls mg e (WE Wx σ) H
abbrev veB : List Value := [.type "ValueError", .type "Exception", .type "BaseException", .type "object"]
/-- an own class of refusals -/
structure ExT (K : PySem.W.Frag) (mg : Str → Option Value) (c : Str) (C : Addr) : Prop where
  g : mg c = some (.ref C)
  n : PySem.W.nsIn K mainGlobals c = some (some (.ref C))
  k : PySem.W.keepIn K (.ref C) = true
  t : PySem.W.typeIn K (.ref C) = some (.type "type")
  x : ExcC K C

/-! ### raise -/
def gRaise (c : Str) : Gs := fun _ => .ex ⟨c, none⟩
theorem z_raise0 {X : Cx} {K : PySem.W.Frag} {L : Lk} {Δ Δn Δb Δc : List Kd} {Wx : WX} {mg : Str → Option Value} {c : Str} {C : Addr} {p pos pos' : Pos} (tk : Takes X Wx) (T : ExT K mg c C) (q : PySem.W.excIn K C veB "ValueError.__new__" = true)
    (hmg : X.mg = mg := by rfl) (hK : X.K = K := by rfl) (hc : X.calm = true := by rfl) (hg : Gl X c := by rfl) (hdb : (c == ("__debug__" : Str)) = false := by decide) :
    SD X K (wtOf mg Wx) L Δ Δn Δb Δc (.Raise (some (.Call (.Name c p) [] [] pos)) none pos') (fun _ σ H => Wx (.ref C) none σ H) (gRaise c) := by
  subst hK hmg
  exact ⟨ps_raise hc tk (pmk_own0 PySem.F.excBase_ValueError q T.g T.k (raises_own T.x.hs T.t) hg hdb), rfl, fun f ρ σ H E r q => q σ H r.ext C T.g⟩

/-! ### calls that may raise -/
def gCallX (n : Nat) (g : List Dt → O Dt) (gA : List Dt → O (List Dt)) : Gd := fun ρ => bnd (gA ρ) fun ds => if ds.length = n then g ds else .bad
def gCallXD (n : Nat) (g : List Dt → O Dt) (dv : List Dt) (gA : List Dt → O (List Dt)) : Gd := fun ρ => bnd (gA ρ) fun ds => if ds.length + dv.length = n then g (ds ++ dv) else .bad
def tCallSD (sp : Sp) (dvs : List V) (E : L2.St → XK) (t : TA) : TE := fun σ H Q => t σ H fun vs H1 => sp (vs ++ dvs) H1 Q (E σ)
section
variable {K : PySem.W.Frag} {Δ : List Kd} {ta : TA} {gA : List Dt → O (List Dt)} {av fr : Bool} {mg : Str → Option Value} {n : Nat} {g : List Dt → O Dt} {Wx : WX}
theorem se_callXN (h : SA K (wtOf mg Wx) Δ ta av fr gA) : SE K (wtOf mg Wx) Δ (tCallS (spG K mg n g) (WE Wx) ta) (.v true true) (gCallX n g gA) := fun f ρ σ H Q r q => h f ρ σ H _ r <| by
  unfold gCallX at q
  cases e : gA ρ with
  | bad => rw [e] at q; exact q
  | ex z => rw [e] at q; exact q
  | ok ds =>
    rw [e, bnd_ok] at q
    intro vs H1 s1 x1
    by_cases hn : ds.length = n
    · rw [if_pos hn] at q
      refine ⟨ds, by rw [x1.length]; exact hn, x1.weak fun _ _ => trivial, ?_⟩
      cases e2 : g ds with
      | bad => rw [e2] at q; exact q.elim
      | ex z => rw [e2] at q; exact fun H2 s2 => q H2 (s1.trans s2)
      | ok d =>
        rw [e2] at q
        intro v H2 s2 x2
        refine q v H2 (s1.trans s2) (x2.weak fun a na => ?_)
        obtain ⟨f1, f2, f3⟩ := (r.mono s1).fresh na
        exact ⟨fun _ => ⟨f1, f2⟩, fun _ => r.g0 a f3⟩
    · rw [if_neg hn] at q
      exact q.elim
theorem se_callXL (h : SA K (wtOf mg Wx) Δ ta av fr gA) : SE K (wtOf mg Wx) Δ (tCallS (spL K mg n g) (WE Wx) ta) (.new .l true) (gCallX n g gA) := fun f ρ σ H Q r q => h f ρ σ H _ r <| by
  unfold gCallX at q
  cases e : gA ρ with
  | bad => rw [e] at q; exact q
  | ex z => rw [e] at q; exact q
  | ok ds =>
    rw [e, bnd_ok] at q
    intro vs H1 s1 x1
    by_cases hn : ds.length = n
    · rw [if_pos hn] at q
      refine ⟨ds, by rw [x1.length]; exact hn, x1.weak fun _ _ => trivial, ?_⟩
      cases e2 : g ds with
      | bad => rw [e2] at q; exact q.elim
      | ex z => rw [e2] at q; exact fun H2 s2 => q H2 (s1.trans s2)
      | ok d =>
        rw [e2] at q
        intro p H2 np s2 x2
        refine q p H2 (s1.free np) (s1.trans s2) (x2.map (fun _ e => e) fun _ _ y => y.weak fun a na => ?_)
        obtain ⟨f1, f2, f3⟩ := (r.mono s1).fresh na.1
        exact ⟨⟨fun _ => ⟨f1, f2⟩, fun _ => r.g0 a f3⟩, na.2⟩
    · rw [if_neg hn] at q
      exact q.elim
theorem se_callXA (h : SA K (wtOf mg Wx) Δ ta av fr gA) : SE K (wtOf mg Wx) Δ (tCallS (spA K mg n g) (WE Wx) ta) (.v av fr) (gCallX n g gA) := fun f ρ σ H Q r q => h f ρ σ H _ r <| by
  unfold gCallX at q
  cases e : gA ρ with
  | bad => rw [e] at q; exact q
  | ex z => rw [e] at q; exact q
  | ok ds =>
    rw [e, bnd_ok] at q
    intro vs H1 s1 x1
    by_cases hn : ds.length = n
    · rw [if_pos hn] at q
      refine ⟨ds, _, by rw [x1.length]; exact hn, x1, ?_⟩
      cases e2 : g ds with
      | bad => rw [e2] at q; exact q.elim
      | ex z => rw [e2] at q; exact fun H2 s2 => q H2 (s1.trans s2)
      | ok d =>
        rw [e2] at q
        intro v H2 s2 x2
        refine q v H2 (s1.trans s2) (x2.weak fun a na => ?_)
        rcases na with na | na
        · exact na
        · obtain ⟨f1, f2, f3⟩ := (r.mono s1).fresh na
          exact ⟨fun _ => ⟨f1, f2⟩, fun _ => r.g0 a f3⟩
    · rw [if_neg hn] at q
      exact q.elim
theorem se_callXNDf {i : Int} (h : SA K (wtOf mg Wx) Δ ta av fr gA) : SE K (wtOf mg Wx) Δ (tCallSD (spG K mg n g) [V.int i] (WE Wx) ta) (.v true true) (gCallXD n g [.int i] gA) := fun f ρ σ H Q r q => h f ρ σ H _ r <| by
  unfold gCallXD at q
  cases e : gA ρ with
  | bad => rw [e] at q; exact q
  | ex z => rw [e] at q; exact q
  | ok ds =>
    rw [e, bnd_ok] at q
    intro vs H1 s1 x1
    by_cases hn : ds.length + [PyData.int i].length = n
    · rw [if_pos hn] at q
      refine ⟨ds ++ [.int i], by rw [List.length_append, x1.length]; exact hn, (x1.weak fun _ _ => trivial).append (.cons (.int i) .nil), ?_⟩
      cases e2 : g (ds ++ [.int i]) with
      | bad => rw [e2] at q; exact q.elim
      | ex z => rw [e2] at q; exact fun H2 s2 => q H2 (s1.trans s2)
      | ok d =>
        rw [e2] at q
        intro v H2 s2 x2
        refine q v H2 (s1.trans s2) (x2.weak fun a na => ?_)
        obtain ⟨f1, f2, f3⟩ := (r.mono s1).fresh na
        exact ⟨fun _ => ⟨f1, f2⟩, fun _ => r.g0 a f3⟩
    · rw [if_neg hn] at q
      exact q.elim
end
section
variable {X : Cx} {K : PySem.W.Frag} {Δ : List Kd} {e : Expr} {es : List Expr} {tA : TA} {gA : List Dt → O (List Dt)} {av fr : Bool} {pos p : Pos} {mg : Str → Option Value} {Wx : WX} {x : Str} {kk nn : Nat} {fa : Addr} {fd : FuncData} {ps : List Str} {gg : List Dt → O Dt}
theorem x_callXN (tk : Takes X Wx) (F : FnOk X.prog X.w X.K X.mg X.base (L2.CX X.prog X.w) kk fa fd ps (spG K mg nn gg)) (hr : Room kk X.A) (hm : X.mg x = some (.ref fa)) (hk : PySem.W.keepIn X.K (.ref fa) = true) (hb : Binds X.K fd ps [])
    (h : AD X K (wtOf mg Wx) Δ (e :: es) tA av fr gA) (hg : Gl X x := by rfl) (hdb : (x == ("__debug__" : Str)) = false := by decide) (he : starEach (e :: es) X.env = (false, eval e X.env) :: starEach es X.env := by rfl) (hpl : (backTo pos (starEach es X.env)).any (·.1) = false := by rfl) :
    PD X K (wtOf mg Wx) Δ (.Call (.Name x p) (e :: es) [] pos) (tCallS (spG K mg nn gg) (WE Wx) tA) (.v true true) (gCallX nn gg gA) := ⟨pe_callS F hr hg hm hk hb (fun σ => passAt tk σ) h.pa hdb he hpl, h.hK, se_callXN h.sa⟩
theorem x_callXL (tk : Takes X Wx) (F : FnOk X.prog X.w X.K X.mg X.base (L2.CX X.prog X.w) kk fa fd ps (spL K mg nn gg)) (hr : Room kk X.A) (hm : X.mg x = some (.ref fa)) (hk : PySem.W.keepIn X.K (.ref fa) = true) (hb : Binds X.K fd ps [])
    (h : AD X K (wtOf mg Wx) Δ (e :: es) tA av fr gA) (hg : Gl X x := by rfl) (hdb : (x == ("__debug__" : Str)) = false := by decide) (he : starEach (e :: es) X.env = (false, eval e X.env) :: starEach es X.env := by rfl) (hpl : (backTo pos (starEach es X.env)).any (·.1) = false := by rfl) :
    PD X K (wtOf mg Wx) Δ (.Call (.Name x p) (e :: es) [] pos) (tCallS (spL K mg nn gg) (WE Wx) tA) (.new .l true) (gCallX nn gg gA) := ⟨pe_callS F hr hg hm hk hb (fun σ => passAt tk σ) h.pa hdb he hpl, h.hK, se_callXL h.sa⟩
theorem x_callXA (tk : Takes X Wx) (F : FnOk X.prog X.w X.K X.mg X.base (L2.CX X.prog X.w) kk fa fd ps (spA K mg nn gg)) (hr : Room kk X.A) (hm : X.mg x = some (.ref fa)) (hk : PySem.W.keepIn X.K (.ref fa) = true) (hb : Binds X.K fd ps [])
    (h : AD X K (wtOf mg Wx) Δ (e :: es) tA av fr gA) (hg : Gl X x := by rfl) (hdb : (x == ("__debug__" : Str)) = false := by decide) (he : starEach (e :: es) X.env = (false, eval e X.env) :: starEach es X.env := by rfl) (hpl : (backTo pos (starEach es X.env)).any (·.1) = false := by rfl) :
    PD X K (wtOf mg Wx) Δ (.Call (.Name x p) (e :: es) [] pos) (tCallS (spA K mg nn gg) (WE Wx) tA) (.v av fr) (gCallX nn gg gA) := ⟨pe_callS F hr hg hm hk hb (fun σ => passAt tk σ) h.pa hdb he hpl, h.hK, se_callXA h.sa⟩
theorem run_fnXD {CX : CXT} {E : L2.St → XK} {sp : Sp} {dvs : List V} {ds : List Value} {pins : List (Addr × Obj)} {σ : L2.St} {H : Hp} {s : Shared} {Q : VK} {us : List Value} {vs : List V} (F : FnOk X.prog X.w X.K X.mg X.base CX kk fa fd ps sp) (hr : Room kk X.A) (hb : Binds X.K fd ps ds) (hd : Vals dvs ds)
    (hx : PassesAt CX X σ (E σ)) (I : Inv X pins σ H s) (r : Vals vs us) (h : sp (vs ++ dvs) H Q (E σ)) : wpAny (model X.prog X.w) X.A (call (.ref fa) us) (EP X pins σ Q) X.xe s := by
  have r2 : Vals (vs ++ dvs) (us ++ ds) := r.append hd
  have hl : (us ++ ds).length = ps.length := by rw [← r2.length]; exact F.len _ _ _ _ h
  refine wpAny_call (codeAny_mono (F.run X.A X.stack s H ⟨us, []⟩ (us ++ ds) (vs ++ dvs) Q (E σ) hr I.env0 (hb s us I.kIn hl) r2 h) fun r s' hq => ?_)
  cases r with
  | error e => exact hx pins H s e s' I hq
  | ok fl =>
    cases fl with
    | ret u => exact I.after hq
    | next => exact False.elim hq
    | brk => exact False.elim hq
    | cont => exact False.elim hq
theorem x_callXNDf {i : Int} (tk : Takes X Wx) (F : FnOk X.prog X.w X.K X.mg X.base (L2.CX X.prog X.w) kk fa fd ps (spG K mg nn gg)) (hr : Room kk X.A) (hm : X.mg x = some (.ref fa)) (hk : PySem.W.keepIn X.K (.ref fa) = true) (hb : ∃ ds, Vals [V.int i] ds ∧ Binds X.K fd ps ds)
    (h : AD X K (wtOf mg Wx) Δ (e :: es) tA av fr gA) (hg : Gl X x := by rfl) (hdb : (x == ("__debug__" : Str)) = false := by decide) (he : starEach (e :: es) X.env = (false, eval e X.env) :: starEach es X.env := by rfl) (hpl : (backTo pos (starEach es X.env)).any (·.1) = false := by rfl) :
    PD X K (wtOf mg Wx) Δ (.Call (.Name x p) (e :: es) [] pos) (tCallSD (spG K mg nn gg) [V.int i] (WE Wx) tA) (.v true true) (gCallXD nn gg [.int i] gA) := by
  obtain ⟨ds, hd, hb⟩ := hb
  refine ⟨⟨fun pins s σ H Q I q => ?_⟩, h.hK, se_callXNDf h.sa⟩
  refine wpAny_Call_Name_kw (ld_glob I hg hm ?_ hdb)
  refine PySem.W.callWith_K (h₀ := X.base) I.ok.mod.kin hk (thn (h.pa.run pos pins s σ H _ I q) fun us s1 ⟨vs, H1, I1, r, q⟩ => ⟨I1.kIn, ?_⟩) he hpl
  exact run_fnXD (E := WE Wx) F hr hb hd (passAt tk σ) I1 r q
end

/-! ### defs that may raise -/
def fnNX (m : Nat) (g : Gs) : List Dt → O Dt := fun ds => match g (ds ++ List.replicate (m - ds.length) .none) with
  | .ok (.rt d) => .ok d
  | .ok (.nx _) => .ok .none
  | .ex e => .ex e
  | _ => .bad
def fnLX (m : Nat) (g : Gs) : List Dt → O Dt := fun ds => match g (ds ++ List.replicate (m - ds.length) .none) with
  | .ok (.rt d) => .ok d
  | .ex e => .ex e
  | _ => .bad
abbrev wE (E : XK) : WX := fun cls d _ H => E cls d H
section
variable {P : Program} {w : World} {K : PySem.W.Frag} {mg : Str → Option Value} {base : Heap} {x qual : Str} {st : Stmt} {fa : Addr} {fd : FuncData} {N ps : List Str} {k n m : Nat} {Δn : List Kd} {g : Gs}
theorem fn_okNX (F : L2.Fun K x qual st fa fd) (S : FnScope N ps (defScope st)) (hn : ps.length = n) (hm : N.length = m) (hnm : n ≤ m)
    (hb : ∀ (cdv : Value) (A : Around) (outer : List Env) (s : Shared) (H : Hp) (E : XK), Room k (A.deeper (envOfC qual (defScope st) s.heap.objs.size fa cdv)) →
      Takes (cxOf (L2.CX P w) P w K mg base N qual (defScope st) fa cdv A outer s H E) (wE E) → PassesOwn (model P w) (cxOf (L2.CX P w) P w K mg base N qual (defScope st) fa cdv A outer s H E).A (cxOf (L2.CX P w) P w K mg base N qual (defScope st) fa cdv A outer s H E).env (cxOf (L2.CX P w) P w K mg base N qual (defScope st) fa cdv A outer s H E).xe →
      ∃ ts, BD (cxOf (L2.CX P w) P w K mg base N qual (defScope st) fa cdv A outer s H E) K (wtOf mg (wE E)) .n (kd0 n m false) Δn (kd0 n m false) (kd0 n m false) (defBody st) ts g) :
    FnOk P w K mg base (L2.CX P w) (k + 1) fa fd ps (spG K mg n (fnNX m g)) := by
  refine F.okX S (fun vs H Q E h => ?_) (fun cdv A outer s H vs Q E hr h => ?_)
  · obtain ⟨ds, h1, _⟩ := h
    rw [h1, hn]
  · obtain ⟨ds, h1, h2, h3⟩ := h
    obtain ⟨ts, B⟩ := hb cdv A outer s H E hr (takes_of rfl rfl rfl rfl) (passes_of (X := cxOf (L2.CX P w) P w K mg base N qual (defScope st) fa cdv A outer s H E) rfl)
    refine ⟨ts, B.ps, B.ss ⟨H, fun a => H a = none, [], [], none⟩ _ _ H _ (r_start h1 hm hnm h2 (fun _ h => h) (fun e => nomatch e)) ?_⟩
    unfold fnNX at h3
    cases e : g (ds ++ List.replicate (m - ds.length) .none) with
    | bad => rw [e] at h3; exact h3.elim
    | ex z => rw [e] at h3; exact fun σ' H' s => h3 H' s
    | ok fl =>
      rw [e] at h3
      cases fl with
      | nx ρ => exact fun σ' H' r => h3 .non H' r.ext .non
      | rt d => exact fun v H' s x => h3 v H' s x
      | bk ρ => exact h3.elim
      | ct ρ => exact h3.elim
theorem fn_okLX (F : L2.Fun K x qual st fa fd) (S : FnScope N ps (defScope st)) (hn : ps.length = n) (hm : N.length = m) (hnm : n ≤ m)
    (hb : ∀ (cdv : Value) (A : Around) (outer : List Env) (s : Shared) (H : Hp) (E : XK), Room k (A.deeper (envOfC qual (defScope st) s.heap.objs.size fa cdv)) →
      Takes (cxOf (L2.CX P w) P w K mg base N qual (defScope st) fa cdv A outer s H E) (wE E) → PassesOwn (model P w) (cxOf (L2.CX P w) P w K mg base N qual (defScope st) fa cdv A outer s H E).A (cxOf (L2.CX P w) P w K mg base N qual (defScope st) fa cdv A outer s H E).env (cxOf (L2.CX P w) P w K mg base N qual (defScope st) fa cdv A outer s H E).xe →
      ∃ ts, BD (cxOf (L2.CX P w) P w K mg base N qual (defScope st) fa cdv A outer s H E) K (wtOf mg (wE E)) .l (kd0 n m false) Δn (kd0 n m false) (kd0 n m false) (defBody st) ts g) :
    FnOk P w K mg base (L2.CX P w) (k + 1) fa fd ps (spL K mg n (fnLX m g)) := by
  refine F.okX S (fun vs H Q E h => ?_) (fun cdv A outer s H vs Q E hr h => ?_)
  · obtain ⟨ds, h1, _⟩ := h
    rw [h1, hn]
  · obtain ⟨ds, h1, h2, h3⟩ := h
    obtain ⟨ts, B⟩ := hb cdv A outer s H E hr (takes_of rfl rfl rfl rfl) (passes_of (X := cxOf (L2.CX P w) P w K mg base N qual (defScope st) fa cdv A outer s H E) rfl)
    refine ⟨ts, B.ps, B.ss ⟨H, fun a => H a = none, [], [], none⟩ _ _ H _ (r_start h1 hm hnm h2 (fun _ h => h) (fun e => nomatch e)) ?_⟩
    unfold fnLX at h3
    cases e : g (ds ++ List.replicate (m - ds.length) .none) with
    | bad => rw [e] at h3; exact h3.elim
    | ex z => rw [e] at h3; exact fun σ' H' s => h3 H' s
    | ok fl =>
      rw [e] at h3
      cases fl with
      | nx ρ => exact h3.elim
      | rt d => exact fun p H' np s x => h3 p H' np s x
      | bk ρ => exact h3.elim
      | ct ρ => exact h3.elim
theorem fn_okAX (F : L2.Fun K x qual st fa fd) (S : FnScope N ps (defScope st)) (hn : ps.length = n) (hm : N.length = m) (hnm : n ≤ m)
    (hb : ∀ (cdv : Value) (A : Around) (outer : List Env) (s : Shared) (H : Hp) (E : XK), Room k (A.deeper (envOfC qual (defScope st) s.heap.objs.size fa cdv)) →
      Takes (cxOf (L2.CX P w) P w K mg base N qual (defScope st) fa cdv A outer s H E) (wE E) → PassesOwn (model P w) (cxOf (L2.CX P w) P w K mg base N qual (defScope st) fa cdv A outer s H E).A (cxOf (L2.CX P w) P w K mg base N qual (defScope st) fa cdv A outer s H E).env (cxOf (L2.CX P w) P w K mg base N qual (defScope st) fa cdv A outer s H E).xe →
      ∃ ts, BD (cxOf (L2.CX P w) P w K mg base N qual (defScope st) fa cdv A outer s H E) K (wtOf mg (wE E)) .n (kd0 n m true) Δn (kd0 n m true) (kd0 n m true) (defBody st) ts g) :
    FnOk P w K mg base (L2.CX P w) (k + 1) fa fd ps (spA K mg n (fnNX m g)) := by
  refine F.okX S (fun vs H Q E h => ?_) (fun cdv A outer s H vs Q E hr h => ?_)
  · obtain ⟨ds, F, h1, _⟩ := h
    rw [h1, hn]
  · obtain ⟨ds, F, h1, h2, h3⟩ := h
    obtain ⟨ts, B⟩ := hb cdv A outer s H E hr (takes_of rfl rfl rfl rfl) (passes_of (X := cxOf (L2.CX P w) P w K mg base N qual (defScope st) fa cdv A outer s H E) rfl)
    refine ⟨ts, B.ps, B.ss ⟨H, fun a => F a ∨ H a = none, [], [], none⟩ _ _ H _ (r_start h1 hm hnm h2 (fun _ h => .inr h) (fun _ a h => .inl h)) ?_⟩
    unfold fnNX at h3
    cases e : g (ds ++ List.replicate (m - ds.length) .none) with
    | bad => rw [e] at h3; exact h3.elim
    | ex z => rw [e] at h3; exact fun σ' H' s => h3 H' s
    | ok fl =>
      rw [e] at h3
      cases fl with
      | nx ρ => exact fun σ' H' r => h3 .non H' r.ext .non
      | rt d => exact fun v H' s x => h3 v H' s x
      | bk ρ => exact h3.elim
      | ct ρ => exact h3.elim
end

/-! ### try .. except x as n -/
def noX (o : O Fl) : O Fl := match o with
  | .ex _ => .bad
  | .ok a => .ok a
  | .bad => .bad
def gTry (gb : Gs) (yes no : List Str) (i : Nat) (gh : Gs) : Gs := fun ρ => match gb ρ with
  | .ex e => if yes.contains e.cls then noX (gh (ρ.set i (exnD e.cls e.arg))) else if no.contains e.cls then .ex e else .bad
  | .ok a => .ok a
  | .bad => .bad
def PoSx (K : PySem.W.Frag) (W : Wt) (L : Lk) (f : Fm) (Δn Δb Δc : List Kd) (σ : L2.St) (H : Hp) (o : O Fl) (E : Ends) : Prop := match o with
  | .ex e => ∀ H', Same H H' → W e σ H'
  | .ok a => PoS K W L f Δn Δb Δc (.ok a) E
  | .bad => False
/-- as SS, and a refusal leaves the slots as they are -/
def SSx (K : PySem.W.Frag) (W : Wt) (L : Lk) (Δ Δn Δb Δc : List Kd) (ts : TS) (g : Gs) : Prop := ∀ f ρ σ H E, R K f Δ ρ σ H → PoSx K W L f Δn Δb Δc σ H (g ρ) E → ts E σ H
structure SDx (X : Cx) (K : PySem.W.Frag) (W : Wt) (L : Lk) (Δ Δn Δb Δc : List Kd) (st : Stmt) (ts : TS) (g : Gs) : Prop where
  ps : PS X st ts
  hK : X.K = K
  ss : SSx K W L Δ Δn Δb Δc ts g
structure BDx (X : Cx) (K : PySem.W.Frag) (W : Wt) (L : Lk) (Δ Δn Δb Δc : List Kd) (sts : List Stmt) (ts : TS) (g : Gs) : Prop where
  ps : PSs X sts ts
  hK : X.K = K
  ss : SSx K W L Δ Δn Δb Δc ts g
section
variable {K : PySem.W.Frag} {f : Fm} {Δ : List Kd} {ρ : List Dt} {σ : L2.St} {H : Hp} {i : Nat}
theorem R.gone (r : R K f Δ ρ σ H) (h : Δ[i]? = some .no) : R K f Δ ρ (σ.set i none) H := by
  have ne : ∀ {j : Nat} {k : Kd}, Δ[j]? = some k → k ≠ .no → i ≠ j := fun {j k} e n z => by
    subst z
    rw [h] at e
    cases e
    exact n rfl
  have ow' : ∀ a, Ow Δ (σ.set i none) a → Ow Δ σ a := fun a ⟨j, c, fr, h1, h2⟩ => by
    rw [List.getElem?_set_ne (ne h1 (fun z => nomatch z))] at h2
    exact ⟨j, c, fr, h1, h2⟩
  have key : ∀ {fr : Bool} {v : V} {d : Dt}, Rp K (FM f Δ σ true fr) H v d → Rp K (FM f Δ (σ.set i none) true fr) H v d := fun h =>
    h.weak fun a fa => ⟨fun _ => ⟨fun z => (fa.1 rfl).1 (ow' a z), (fa.1 rfl).2⟩, fa.2⟩
  refine ⟨r.ext, r.g0, by rw [List.length_set]; exact r.lσ, r.lρ, fun j l cj fj cl fl p h1 h2 h3 h4 => ?_, fun a ha => ⟨(r.pin a ha).1, fun z => (r.pin a ha).2 (ow' a z)⟩, fun g hg => (r.gh g hg).map fun _ _ x => key x, fun j fr h' => ?_, fun j c fr h' => ?_, fun j c fr h' ha => ?_⟩
  · rw [List.getElem?_set_ne (ne h1 (fun z => nomatch z))] at h3
    rw [List.getElem?_set_ne (ne h2 (fun z => nomatch z))] at h4
    exact r.inj j l cj fj cl fl p h1 h2 h3 h4
  · obtain ⟨v, d, h1, h2, h3⟩ := r.im j fr h'
    exact ⟨v, d, by rw [List.getElem?_set_ne (ne h' (fun z => nomatch z))]; exact h1, h2, key h3⟩
  · obtain ⟨p, d, h1, h2, h3, h4⟩ := r.ow j c fr h'
    exact ⟨p, d, by rw [List.getElem?_set_ne (ne h' (fun z => nomatch z))]; exact h1, h2, h3, h4.map (fun o e => e) fun _ _ x => key x⟩
  · obtain ⟨p, h1, h2⟩ := r.ar j c fr h' ha
    exact ⟨p, h1, by rw [List.getElem?_set_ne (ne h' (fun z => nomatch z))]; exact h2⟩
end
section
variable {K : PySem.W.Frag} {W : Wt} {L : Lk} {Δ Δ1 Δn Δb Δc : List Kd} {te : TE} {tt : TT} {t u ts : TS} {g : Gd} {gt : List Dt → O Bool} {ga gb gh : Gs} {fr av : Bool} {k : Rk} {i : Nat} {mg : Str → Option Value}
theorem sx_drop (h : SE K W Δ te k g) : SSx K W L Δ Δ Δb Δc (tDrop te) (gDrop g) := fun f ρ σ H E r q => h f ρ σ H _ r <| by
  unfold gDrop at q
  cases e : g ρ with
  | bad => rw [e] at q; exact q
  | ex z => rw [e] at q; exact q
  | ok d =>
    rw [e] at q
    cases k with
    | v av fr => exact fun v H' s x => q σ H' (r.mono s)
    | o fr => exact fun p H' vs ds e s _ _ _ => q σ H' (r.mono s)
    | new c fr => exact fun p H' np s x => q σ H' (r.mono s)
theorem sx_set (hi : i < Δ.length) (h : SE K W Δ te (.v true fr) g) : SSx K W L Δ (Δ.set i (.im fr)) Δb Δc (tAsg te (gName i)) (gSet i g) := fun f ρ σ H E r q => h f ρ σ H _ r <| by
  unfold gSet at q
  cases e : g ρ with
  | bad => rw [e] at q; exact q
  | ex z => rw [e] at q; exact q
  | ok d =>
    rw [e] at q
    exact fun v H' s x => q _ H' ((r.mono s).setIm hi x)
theorem sx_if (h : ST K W Δ tt gt) (h1 : SSx K W L Δ Δn Δb Δc t ga) (h2 : SSx K W L Δ Δn Δb Δc u gb) : SSx K W L Δ Δn Δb Δc (tIfS tt t u) (gIfS gt ga gb) := fun f ρ σ H E r q => h f ρ σ H _ r <| by
  unfold gIfS at q
  cases e : gt ρ with
  | bad => rw [e] at q; exact q
  | ex z => rw [e] at q; exact q
  | ok c =>
    rw [e, bnd_ok] at q
    intro H1 s
    have up : ∀ {o : O Fl}, PoSx K W L f Δn Δb Δc σ H o E → PoSx K W L f Δn Δb Δc σ H1 o E := fun {o} q => by
      cases o with
      | bad => exact q
      | ok a => exact q
      | ex z => exact fun H' s' => q H' (s.trans s')
    cases c with
    | true => exact h1 f ρ σ H1 E (r.mono s) (up q)
    | false => exact h2 f ρ σ H1 E (r.mono s) (up q)
theorem SSx.post {Δn' : List Kd} (h : SSx K W L Δ Δn Δb Δc t ga) (ln : leA Δn Δn' = true) : SSx K W L Δ Δn' Δb Δc t ga := fun f ρ σ H E r q => h f ρ σ H E r <| by
  cases e : ga ρ with
  | bad => rw [e] at q; exact q
  | ex z => rw [e] at q; exact q
  | ok fl =>
    rw [e] at q
    cases fl with
    | nx ρ' => exact fun σ' H' r => q σ' H' (r.weak ln)
    | rt d => exact q
    | bk ρ' => exact q
    | ct ρ' => exact q
theorem s_tryX {C : Addr} {c : Str} {yes no : List Str} {tb : WX → TS} {Wout : WX} (T : ExT K mg c C)
    (hyes : ∀ y ∈ yes, ∃ D, PySem.W.nsIn K mainGlobals y = some (some (.ref D)) ∧ mg y = some (.ref D) ∧ PySem.W.subIn K (.ref D) (.ref C) = some true)
    (hno : ∀ y ∈ no, ∃ D, PySem.W.nsIn K mainGlobals y = some (some (.ref D)) ∧ mg y = some (.ref D) ∧ PySem.W.subIn K (.ref D) (.ref C) = some false)
    (hW : ∀ e σ H, W e σ H → wtOf mg Wout e σ H) (hi : i < Δ.length) (en : Δn[i]? = some .no) (eb : Δb[i]? = some .no) (ec : Δc[i]? = some .no)
    (hb : ∀ Wx : WX, SSx K (wtOf mg Wx) L Δ Δn Δb Δc (tb Wx) gb) (hsu : SS K W0 L (Δ.set i (.im true)) Δn Δb Δc ts gh) :
    SS K W L Δ Δn Δb Δc (fun D σ H => tb (wX K (.ref C) i ts Wout D) D σ H) (gTry gb yes no i gh) := fun f ρ σ H E r q => hb _ f ρ σ H E r <| by
  unfold gTry at q
  cases e : gb ρ with
  | bad => rw [e] at q; exact q
  | ok a =>
    rw [e] at q
    cases a with
    | nx ρ' => exact q
    | rt d => exact q
    | bk ρ' => exact q
    | ct ρ' => exact q
  | ex z =>
    rw [e] at q
    have q : PoS K W L f Δn Δb Δc (if yes.contains z.cls then noX (gh (ρ.set i (exnD z.cls z.arg))) else if no.contains z.cls then .ex z else .bad) E := q
    intro H' s C' hC'
    by_cases hy : yes.contains z.cls = true
    · rw [if_pos hy] at q
      obtain ⟨D, h1, h2, h3⟩ := hyes z.cls (by simpa using hy)
      rw [h2] at hC'
      cases hC'
      have key : ∀ d, XdAt H' d z.arg → wX K (.ref C) i ts Wout E (.ref C') d σ H' := fun d hd => by
        refine ⟨true, PySem.W.exm_ref T.x.hs T.x.hd T.t h3, fun _ a na => ?_, (fun z => nomatch z)⟩
        refine hsu f (ρ.set i (exnD z.cls z.arg)) _ _ (goneE i E) ((r.mono (s.trans (same_upd na))).setIm hi (.exn h1 upd_same (hd.same (same_upd na)))) ?_
        cases e2 : gh (ρ.set i (exnD z.cls z.arg)) with
        | bad => rw [e2] at q; exact q
        | ex y => rw [e2] at q; exact q.elim
        | ok fl =>
          rw [e2] at q
          cases fl with
          | nx ρ' => exact fun σ' H2 r' => q _ H2 (r'.gone en)
          | rt d => exact q
          | bk ρ' => exact fun σ' H2 r' => q _ H2 (r'.gone eb)
          | ct ρ' => exact fun σ' H2 r' => q _ H2 (r'.gone ec)
      cases ea : z.arg with
      | none => exact key none (by rw [ea]; exact rfl)
      | some m => exact fun d hd => key (some d) (by rw [ea]; exact ⟨d, rfl, hd⟩)
    · rw [if_neg hy] at q
      by_cases hn : no.contains z.cls = true
      · rw [if_pos hn] at q
        obtain ⟨D, h1, h2, h3⟩ := hno z.cls (by simpa using hn)
        have w := hW z σ H' (q σ H' (r.ext.trans s)) C' hC'
        rw [h2] at hC'
        cases hC'
        have key : ∀ d, Wout (.ref C') d σ H' → wX K (.ref C) i ts Wout E (.ref C') d σ H' := fun d w => ⟨false, PySem.W.exm_ref T.x.hs T.x.hd T.t h3, (fun z => nomatch z), fun _ => w⟩
        cases ea : z.arg with
        | none => rw [ea] at w; exact key none w
        | some m => rw [ea] at w; exact fun d hd => key (some d) (w d hd)
      · rw [if_neg hn] at q
        exact q.elim
end

section
variable {X : Cx} {K : PySem.W.Frag} {W : Wt} {L : Lk} {Δ Δ1 Δn Δb Δc : List Kd} {e c : Expr} {te : TE} {tt : TT} {t u ts : TS} {g : Gd} {gt : List Dt → O Bool} {ga gb gh g1 g2 : Gs} {fr av : Bool} {k : Rk} {mg : Str → Option Value} {st : Stmt} {sts sts2 : List Stmt} {pos pos' : Pos}
theorem y_drop (h : PD X K W Δ e te k g) (hs : swapsWith e none pos.line X.env = pure false := by rfl) : SDx X K W L Δ Δ Δb Δc (.Expr e pos) (tDrop te) (gDrop g) := ⟨ps_expr h.pe hs, h.hK, sx_drop h.se⟩
theorem y_set (i : Nat) {x : Str} (hN : X.N.Nodup) (h : PD X K W Δ e te (.v true fr) g) (hn : i < Δ.length := by decide) (hi : X.N[i]? = some x := by rfl) (hx : Loc X.env.scope x := by first | exact .inl rfl | exact .inr rfl) (hs : swapsWith e (some (.Name x pos')) pos.line X.env = pure false := by rfl)
    (hf : X.fn x = true ∨ X.env.scope.names.lookup x = some .local := by first | exact .inl rfl | exact .inr rfl) : SDx X K W L Δ (Δ.set i (.im fr)) Δb Δc (.Assign [.Name x pos'] e pos) (tAsg te (gName i)) (gSet i g) :=
  ⟨(z_set (L := .n) (Δb := []) (Δc := []) i hN h hn hi hx hs hf).ps, h.hK, sx_set hn h.se⟩
theorem y_if (h : TD X K W Δ c tt gt) (h1 : BDx X K W L Δ Δn Δb Δc sts t g1) (h2 : BDx X K W L Δ Δn Δb Δc sts2 u g2) : SDx X K W L Δ Δn Δb Δc (.If c sts sts2 pos) (tIfS tt t u) (gIfS gt g1 g2) := ⟨ps_if h.pt h1.ps h2.ps, h.hK, sx_if h.st h1.ss h2.ss⟩
theorem y_one (h : SDx X K W L Δ Δn Δb Δc st t g1) : BDx X K W L Δ Δn Δb Δc [st] t g1 := ⟨pss_one h.ps, h.hK, h.ss⟩
theorem BDx.to (Δn' : List Kd) (h : BDx X K W L Δ Δn Δb Δc sts t g1) (l : leA Δn Δn' = true := by rfl) : BDx X K W L Δ Δn' Δb Δc sts t g1 := ⟨h.ps, h.hK, h.ss.post l⟩
theorem z_tryX {C : Addr} {x n : Str} {yes no : List Str} {tb : WX → TS} {Wout : WX} {b₀ : Stmt} {np ph : Pos} {body suite : List Stmt} (i : Nat) (T : ExT K mg x C) (tk : Takes X Wout)
    (hyes : ∀ y ∈ yes, ∃ D, PySem.W.nsIn K mainGlobals y = some (some (.ref D)) ∧ mg y = some (.ref D) ∧ PySem.W.subIn K (.ref D) (.ref C) = some true)
    (hno : ∀ y ∈ no, ∃ D, PySem.W.nsIn K mainGlobals y = some (some (.ref D)) ∧ mg y = some (.ref D) ∧ PySem.W.subIn K (.ref D) (.ref C) = some false)
    (hW : ∀ e σ H, W e σ H → wtOf mg Wout e σ H) (hN : X.N.Nodup)
    (hb : ∀ (Wx : WX) (pn : List (Addr × Obj)) (xe : Value → Shared → Prop), Takes (X.tr pn xe) Wx → BDx (X.tr pn xe) K (wtOf mg Wx) L Δ Δn Δb Δc body (tb Wx) gb)
    (hsu : ∀ (a : Addr) (pn : List (Addr × Obj)), BD (X.suite a pn) K W0 L (Δ.set i (.im true)) Δn Δb Δc (b₀ :: suite) ts gh)
    (hi : i < Δ.length := by decide) (en : Δn[i]? = some .no := by rfl) (eb : Δb[i]? = some .no := by rfl) (ec : Δc[i]? = some .no := by rfl)
    (hn : X.N[i]? = some n := by rfl) (hln : X.env.kindOf n = some .local := by rfl) (hmg : X.mg = mg := by rfl) (hK : X.K = K := by rfl) (hs : X.stack = X.env :: X.outer := by rfl) (hf : X.env.frame = some X.env.locals := by rfl) (hex : X.ex = [] := by rfl)
    (hg : Gl X x := by rfl) (hdb : (x == ("__debug__" : Str)) = false := by decide) :
    SD X K W L Δ Δn Δb Δc (.Try body [.ExceptHandler (some (.Name x np)) (some n) (b₀ :: suite) ph] [] [] pos) (fun D σ H => tb (wX K (.ref C) i ts Wout D) D σ H) (gTry gb yes no i gh) := by
  subst hK hmg
  exact ⟨ps_tryX hs hf hex hN hn hln ⟨hg, hdb, .inl T.g⟩ tk (fun W pn xe tk => (hb W pn xe tk).ps) (fun a pn => (hsu a pn).ps), rfl, s_tryX T hyes hno hW hi en eb ec (fun Wx => (hb Wx [] (fun _ _ => True) (fun _ _ _ => trivial)).ss) (hsu 0 []).ss⟩
end

theorem co_nil {K : PySem.W.Frag} {mg : Str → Option Value} {C : Addr} {b : Bool} : ∀ y ∈ ([] : List Str), ∃ D, PySem.W.nsIn K mainGlobals y = some (some (.ref D)) ∧ mg y = some (.ref D) ∧ PySem.W.subIn K (.ref D) (.ref C) = some b := fun y h => nomatch h
theorem co_cons {K : PySem.W.Frag} {mg : Str → Option Value} {C D : Addr} {b : Bool} {y : Str} {ys : List Str} (T : ExT K mg y D) (e : PySem.W.subIn K (.ref D) (.ref C) = some b) (h : ∀ y ∈ ys, ∃ D, PySem.W.nsIn K mainGlobals y = some (some (.ref D)) ∧ mg y = some (.ref D) ∧ PySem.W.subIn K (.ref D) (.ref C) = some b) :
    ∀ z ∈ y :: ys, ∃ D, PySem.W.nsIn K mainGlobals z = some (some (.ref D)) ∧ mg z = some (.ref D) ∧ PySem.W.subIn K (.ref D) (.ref C) = some b := fun z hz => by
  rcases List.mem_cons.mp hz with rfl | hz
  · exact ⟨D, T.n, T.g, e⟩
  · exact h z hz
/-! ### isinstance of what was caught -/
def isxTab (tab : List (Str × Bool)) (c : Str) : Option Bool := (tab.find? fun p => p.1 == c).map (·.2)
def hIsX (tab : List (Str × Bool)) : Dt → O Dt := fun d => match d with
  | .dict [(.none, .str c), (.none, .none)] => (match isxTab tab c with
    | some b => .ok (.bool b)
    | none => .bad)
  | _ => .bad
/-- the table's facts: for each name its class, and what is told of it -/
def TabOk (K : PySem.W.Frag) (tab : List (Str × Bool)) (ans : Addr → Option Bool) : Prop := ∀ p ∈ tab, ∃ D, PySem.W.nsIn K mainGlobals p.1 = some (some (.ref D)) ∧ ExcC K D ∧ ans D = some p.2
theorem tab_nil {K : PySem.W.Frag} {ans : Addr → Option Bool} : TabOk K [] ans := fun p h => nomatch h
theorem tab_cons {K : PySem.W.Frag} {mg : Str → Option Value} {ans : Addr → Option Bool} {c : Str} {b : Bool} {D : Addr} {tab : List (Str × Bool)} (T : ExT K mg c D) (e : ans D = some b) (h : TabOk K tab ans) : TabOk K ((c, b) :: tab) ans := fun p hp => by
  rcases List.mem_cons.mp hp with rfl | hp
  · exact ⟨D, T.n, T.x, e⟩
  · exact h p hp
theorem kit_ref {K : PySem.W.Frag} {mg : Str → Option Value} {c : Str} {C D : Addr} {b : Bool} (T : ExT K mg c C) (e : PySem.W.subIn K (.ref D) (.ref C) = some b) (ed : D = C → b = true) : PySem.W.kitOne K (.ref D) (.ref C) = some b := by
  unfold PySem.W.kitOne PySem.W.kitCls
  by_cases h : (Value.ref D == Value.ref C) = true
  · rw [if_pos h, ed (Value.ref.inj (beq_iff_eq.mp h))]
  · rw [if_neg h]
    have e1 : ((PySem.W.clsIn K C).isSome && PySem.W.typeIn K (.ref C) == some (.type "type")) = true := by
      obtain ⟨cd, hc, _⟩ := PySem.W.any_some T.x.hd
      rw [hc, T.t]
      rfl
    show (if ((PySem.W.clsIn K C).isSome && PySem.W.typeIn K (.ref C) == some (.type "type")) = true then PySem.W.subIn K (.ref D) (.ref C) else none) = some b
    rw [if_pos e1]
    exact e
theorem kit_bi {K : PySem.W.Frag} {D : Addr} {n : String} {b : Bool} (e : PySem.W.subIn K (.ref D) (.type n) = some b) (hm : PySem.W.kitMeta n = true := by decide +kernel) : PySem.W.kitOne K (.ref D) (.type n) = some b := by
  unfold PySem.W.kitOne PySem.W.kitCls
  rw [if_neg (show ¬ (Value.ref D == Value.type n) = true from by simp)]
  show (if PySem.W.kitMeta n = true then PySem.W.subIn K (.ref D) (.type n) else none) = some b
  rw [if_pos hm]
  exact e
/-- isinstance(x, c), x a tracked exception -/
def rIsX (K : PySem.W.Frag) : List V → Hp → VK → Prop := fun xs H Q => ∃ (a D : Addr) (c : V) (cv : Value) (b : Bool), xs = [.ref a, c] ∧ H a = some (ExH (.ref D) none a) ∧ ExcC K D ∧ (∀ u, RelV c u → u = cv) ∧ PySem.W.kitOne K (.ref D) cv = some b ∧ Q (.bl b) H
theorem call_isX {X : Cx} : CallR X (.builtin "isinstance") (rIsX X.K) := by
  intro pins s σ H xs us Q I r h
  obtain ⟨a, D, c, cv, b, rfl, ha, C, hcv, e, q⟩ := h
  cases r with
  | cons rx rr =>
    cases rr with
    | cons rt rr =>
      cases rr
      cases rx
      have ec := hcv _ rt
      subst ec
      obtain ⟨⟨oe, vs, ho, hz, hv⟩, _, _⟩ := I.hok a _ ha
      have J : PySem.W.InstAt s.heap a oe D none := by
        obtain ⟨oc, od, oda, osl⟩ := oe
        obtain ⟨h1, h2⟩ := hz
        dsimp only at h1 h2 hv
        subst h1 h2 hv
        exact ⟨ho, rfl, rfl, trivial⟩
      exact PySem.W.kia_one (PySem.W.handS_kitx_exc C.hg C.hk C.hs C.hd C.ha C.hn C.ht C.hm) I.kIn J e (fun z => nomatch z) fun tk => ⟨.bl b, H, I.kept (t' := tk) fun _ _ z => z, rfl, q⟩
theorem rp_exn {K : PySem.W.Frag} {F : Addr → Prop} {H : Hp} {v : V} {c : Str} (x : Rp K F H v (.dict [(.none, .str c), (.none, .none)])) : ∃ a C, v = .ref a ∧ PySem.W.nsIn K mainGlobals c = some (some (.ref C)) ∧ H a = some (ExH (.ref C) none a) := by
  generalize ed : PyData.dict [(.none, .str c), (.none, .none)] = d at x
  cases x with
  | dic h fa hk r =>
    rename_i a kvs es
    injection ed with ed
    subst ed
    cases kvs with
    | nil => cases hk
    | cons kv kvs =>
      rw [List.map_cons, List.map_cons] at hk
      injection hk with h1 h2
      obtain ⟨k, w⟩ := kv
      cases k <;> cases h1
  | exn n h hx =>
    rename_i a C cls d m
    injection ed with ed
    injection ed with e1 e2
    injection e1 with _ e1
    injection e1 with e1
    injection e2 with e2 _
    injection e2 with _ e2
    subst e1
    cases m with
    | none =>
      have hx : d = none := hx
      subst hx
      exact ⟨a, C, rfl, n, h⟩
    | some i => cases e2
  | _ => cases ed
theorem se_isX {K : PySem.W.Frag} {W : Wt} {Δ : List Kd} {te : TE} {g : Gd} {av fr : Bool} {c : V} {cv : Value} {tab : List (Str × Bool)} (hcv : ∀ u, RelV c u → u = cv) (ht : TabOk K tab fun D => PySem.W.kitOne K (.ref D) cv) (ha : SE K W Δ te (.v av fr) g) :
    SE K W Δ (tCB (rIsX K) (tCons te (tCons (tC c) tNil))) (.v true true) (gUn (hIsX tab) g) := fun f ρ σ H Q R q => by
  refine ha f ρ σ H _ R ?_
  unfold gUn at q
  cases e1 : g ρ with
  | bad => rw [e1] at q; exact q
  | ex z => rw [e1] at q; exact q
  | ok d =>
    rw [e1, bnd_ok] at q
    intro v H1 s1 x1
    unfold hIsX at q
    split at q
    · rename_i cn
      obtain ⟨a, C, rfl, hn, hp⟩ := rp_exn x1
      cases et : isxTab tab cn with
      | none => rw [et] at q; exact q.elim
      | some b =>
        rw [et] at q
        unfold isxTab at et
        obtain ⟨p, ep, eb⟩ := Option.map_eq_some_iff.mp et
        have h1 := List.mem_of_find?_eq_some ep
        have h2 := List.find?_some ep
        have h2 : p.1 = cn := by simpa using h2
        obtain ⟨D, k1, k2, k3⟩ := ht p h1
        rw [h2, hn] at k1
        cases k1
        subst eb
        exact ⟨a, C, c, cv, p.2, rfl, hp, k2, hcv, k3, q _ H1 s1 (.bl _)⟩
    · exact q.elim
theorem pe_cls {X : Cx} {x : Str} {C : Addr} {p : Pos} (hm : X.mg x = some (.ref C)) (hg : Gl X x) (hdb : (x == ("__debug__" : Str)) = false) : PE X (.Name x p) (tC (.ref C)) := ⟨fun pins s σ H Q I h => ld_glob I hg hm ⟨.ref C, H, I, rfl, h⟩ hdb⟩
section
variable {X : Cx} {K : PySem.W.Frag} {W : Wt} {Δ : List Kd} {e : Expr} {te : TE} {g : Gd} {av fr : Bool} {pos p p2 : Pos} {mg : Str → Option Value} {tab : List (Str × Bool)}
theorem x_isX {x : Str} {C : Addr} (hm : X.mg "isinstance" = none) (hx : X.mg x = some (.ref C)) (ht : TabOk K tab fun D => PySem.W.kitOne K (.ref D) (.ref C)) (h : PD X K W Δ e te (.v av fr) g) (hg2 : Gl X x := by rfl) (hdb : (x == ("__debug__" : Str)) = false := by decide)
    (hg : Gl X "isinstance" := by rfl)
    (he : starEach [e, .Name x p2] X.env = (false, eval e X.env) :: starEach [.Name x p2] X.env := by rfl) (he2 : starEach [.Name x p2] X.env = (false, eval (.Name x p2) X.env) :: starEach [] X.env := by rfl) (hpl : (backTo pos (starEach [.Name x p2] X.env)).any (·.1) = false := by rfl) :
    PD X K W Δ (.Call (.Name "isinstance" p) [e, .Name x p2] [] pos) (tCB (rIsX K) (tCons te (tCons (tC (.ref C)) tNil))) (.v true true) (gUn (hIsX tab) g) :=
  ⟨pe_callB (by have q := call_isX (X := X); rw [h.hK] at q; exact q) hg hm (by decide +kernel) (pa_cons h.pe (pa_cons (pe_cls hx hg2 hdb) pa_nil he2) he) (by decide) (by decide) he hpl, h.hK, se_isX (fun u r => r) ht h.se⟩
theorem x_isXB {x : Str} {T : String} (hm : X.mg "isinstance" = none) (hm2 : X.mg x = none) (ht : TabOk K tab fun D => PySem.W.kitOne K (.ref D) (.type T)) (h : PD X K W Δ e te (.v av fr) g) (hv : bootBuiltins x = some (.type T) := by decide +kernel) (hg2 : Gl X x := by rfl) (hn : x ≠ "__name__" := by decide) (hdb : (x == ("__debug__" : Str)) = false := by decide)
    (hg : Gl X "isinstance" := by rfl)
    (he : starEach [e, .Name x p2] X.env = (false, eval e X.env) :: starEach [.Name x p2] X.env := by rfl) (he2 : starEach [.Name x p2] X.env = (false, eval (.Name x p2) X.env) :: starEach [] X.env := by rfl) (hpl : (backTo pos (starEach [.Name x p2] X.env)).any (·.1) = false := by rfl) :
    PD X K W Δ (.Call (.Name "isinstance" p) [e, .Name x p2] [] pos) (tCB (rIsX K) (tCons te (tCons (tC (.ty T)) tNil))) (.v true true) (gUn (hIsX tab) g) :=
  ⟨pe_callB (by have q := call_isX (X := X); rw [h.hK] at q; exact q) hg hm (by decide +kernel) (pa_cons h.pe (pa_cons (pe_bltn hg2 hm2 hv rfl hn hdb) pa_nil he2) he) (by decide) (by decide) he hpl, h.hK, se_isX (fun u r => r) ht h.se⟩
end

/-! ### isinstance(x, (c, c2, ..)) -/
def rIsXT (K : PySem.W.Frag) (cvs : List Value) : List V → Hp → VK → Prop := fun xs H Q => ∃ (a D t : Addr) (cs : List V) (b : Bool), xs = [.ref a, .ref t] ∧ H a = some (ExH (.ref D) none a) ∧ H t = some (.tup cs) ∧ ExcC K D ∧ (∀ us, Vals cs us → us = cvs) ∧ PySem.W.kitAny K (.ref D) cvs = some b ∧ Q (.bl b) H
theorem call_isXT {X : Cx} {cvs : List Value} : CallR X (.builtin "isinstance") (rIsXT X.K cvs) := by
  intro pins s σ H xs us Q I r h
  obtain ⟨a, D, t, cs, b, rfl, ha, ht, C, hcv, e, q⟩ := h
  cases r with
  | cons rx rr =>
    cases rr with
    | cons rt rr =>
      cases rr
      cases rx
      cases rt
      obtain ⟨⟨oe, vs, ho, hz, hv⟩, _, _⟩ := I.hok a _ ha
      obtain ⟨_, its, rv, ot, hot, hc, n, hdt⟩ := I.hok t _ ht
      have ev := hcv _ rv
      subst ev
      have J : PySem.W.InstAt s.heap a oe D none := by
        obtain ⟨oc, od, oda, osl⟩ := oe
        obtain ⟨h1, h2⟩ := hz
        dsimp only at h1 h2 hv
        subst h1 h2 hv
        exact ⟨ho, rfl, rfl, trivial⟩
      obtain ⟨otc, otd, otdata, otsl⟩ := ot
      dsimp only at hc hdt
      subst hc hdt
      exact PySem.W.kia_tup (PySem.W.handS_kitx_exc C.hg C.hk C.hs C.hd C.ha C.hn C.ht C.hm) I.kIn J hot e (fun z => nomatch z) fun tk => ⟨.bl b, H, I.kept (t' := tk) fun _ _ z => z, rfl, q⟩
/-- class names, evaluated -/
structure ClsA (X : Cx) (es : List Expr) (vs : List V) (cvs : List Value) (tA : TA) : Prop where
  pa : PA X es tA
  run : ∀ σ H Q, Q vs H → tA σ H Q
  un : ∀ us, Vals vs us → us = cvs
theorem ca_nil {X : Cx} : ClsA X [] [] [] tNil := ⟨pa_nil, fun _ _ _ q => q, fun us r => by cases r; rfl⟩
theorem ca_cons {X : Cx} {x : Str} {C : Addr} {p : Pos} {es : List Expr} {vs : List V} {cvs : List Value} {tA : TA} (hm : X.mg x = some (.ref C)) (h : ClsA X es vs cvs tA) (hg : Gl X x := by rfl) (hdb : (x == ("__debug__" : Str)) = false := by decide)
    (he : starEach (.Name x p :: es) X.env = (false, eval (.Name x p) X.env) :: starEach es X.env := by rfl) : ClsA X (.Name x p :: es) (.ref C :: vs) (.ref C :: cvs) (tCons (tC (.ref C)) tA) :=
  ⟨pa_cons (pe_cls hm hg hdb) h.pa he, fun σ H Q q => h.run σ H _ q, fun us r => by
    cases r with
    | cons r1 r2 =>
      cases r1
      rw [h.un _ r2]⟩
theorem kany_cons {K : PySem.W.Frag} {t c : Value} {cs : List Value} {b b' : Bool} (h : PySem.W.kitOne K t c = some b) (h2 : PySem.W.kitAny K t cs = some b') : PySem.W.kitAny K t (c :: cs) = some (b || b') := by
  unfold PySem.W.kitAny
  rw [h]
  cases b with
  | true => rfl
  | false => exact h2
theorem se_isXT {K : PySem.W.Frag} {W : Wt} {Δ : List Kd} {te : TE} {tA : TA} {g : Gd} {av fr : Bool} {vs : List V} {cvs : List Value} {tab : List (Str × Bool)} (hrun : ∀ σ H Q, Q vs H → tA σ H Q) (hlen : vs.length ≤ 100000) (hcv : ∀ us, Vals vs us → us = cvs)
    (ht : TabOk K tab fun D => PySem.W.kitAny K (.ref D) cvs) (ha : SE K W Δ te (.v av fr) g) : SE K W Δ (tCB (rIsXT K cvs) (tCons te (tCons (tTup tA) tNil))) (.v true true) (gUn (hIsX tab) g) := fun f ρ σ H Q R q => by
  refine ha f ρ σ H _ R ?_
  unfold gUn at q
  cases e1 : g ρ with
  | bad => rw [e1] at q; exact q
  | ex z => rw [e1] at q; exact q
  | ok d =>
    rw [e1, bnd_ok] at q
    intro v H1 s1 x1
    unfold hIsX at q
    split at q
    · rename_i cn
      obtain ⟨a, C, rfl, hn, hp⟩ := rp_exn x1
      cases et : isxTab tab cn with
      | none => rw [et] at q; exact q.elim
      | some b =>
        rw [et] at q
        unfold isxTab at et
        obtain ⟨p, ep, eb⟩ := Option.map_eq_some_iff.mp et
        have h1 := List.mem_of_find?_eq_some ep
        have h2 := List.find?_some ep
        have h2 : p.1 = cn := by simpa using h2
        obtain ⟨D, k1, k2, k3⟩ := ht p h1
        rw [h2, hn] at k1
        cases k1
        subst eb
        refine hrun _ _ _ ⟨sz_le hlen, fun t nt => ?_⟩
        exact ⟨a, C, t, vs, p.2, rfl, same_upd nt _ _ hp, upd_same, k2, hcv, k3, q _ _ (s1.trans (same_upd nt)) (.bl _)⟩
    · exact q.elim
theorem x_isXT {X : Cx} {K : PySem.W.Frag} {W : Wt} {Δ : List Kd} {e : Expr} {es : List Expr} {te : TE} {tA : TA} {g : Gd} {av fr : Bool} {pos p p2 : Pos} {k2 : Nat} {vs : List V} {cvs : List Value} {tab : List (Str × Bool)} (hm : X.mg "isinstance" = none) (hc : ClsA X es vs cvs tA) (ht : TabOk K tab fun D => PySem.W.kitAny K (.ref D) cvs)
    (h : PD X K W Δ e te (.v av fr) g) (hlen : vs.length ≤ 100000 := by exact Nat.le_of_ble_eq_true rfl) (hg : Gl X "isinstance" := by rfl)
    (he : starEach [e, .Tuple es k2 p2] X.env = (false, eval e X.env) :: starEach [.Tuple es k2 p2] X.env := by rfl) (he2 : starEach [.Tuple es k2 p2] X.env = (false, eval (.Tuple es k2 p2) X.env) :: starEach [] X.env := by rfl) (hpl : (backTo pos (starEach [.Tuple es k2 p2] X.env)).any (·.1) = false := by rfl) :
    PD X K W Δ (.Call (.Name "isinstance" p) [e, .Tuple es k2 p2] [] pos) (tCB (rIsXT K cvs) (tCons te (tCons (tTup tA) tNil))) (.v true true) (gUn (hIsX tab) g) :=
  ⟨pe_callB (by have q := call_isXT (X := X) (cvs := cvs); rw [h.hK] at q; exact q) hg hm (by decide +kernel) (pa_cons h.pe (pa_cons (pe_tup hc.pa) pa_nil he2) he) (by decide) (by decide) he hpl, h.hK, se_isXT hc.run hlen hc.un ht h.se⟩
theorem kit_yes {K : PySem.W.Frag} {mg : Str → Option Value} {c : Str} {C D : Addr} (T : ExT K mg c C) (e : PySem.W.subIn K (.ref D) (.ref C) = some true) : PySem.W.kitOne K (.ref D) (.ref C) = some true := kit_ref T e fun _ => rfl
theorem kit_no {K : PySem.W.Frag} {mg : Str → Option Value} {c : Str} {C D : Addr} (T : ExT K mg c C) (e : PySem.W.subIn K (.ref D) (.ref C) = some false) (s : PySem.W.subIn K (.ref D) (.ref D) = some true) : PySem.W.kitOne K (.ref D) (.ref C) = some false := kit_ref T e fun ed => by
  subst ed
  rw [s] at e
  cases e
/-! ### a new dict, kept -/
theorem SE.nvD {K : PySem.W.Frag} {W : Wt} {Δ : List Kd} {te : TE} {g : Gd} {fr : Bool} (h : SE K W Δ te (.new .dk fr) g) : SE K W Δ te (.v true fr) g := fun f ρ σ H Q r q =>
  h f ρ σ H Q r <| by
    cases e : g ρ with
    | bad => rw [e] at q; exact q
    | ex z => rw [e] at q; exact q
    | ok d =>
      rw [e] at q
      intro p H' np s x
      obtain ⟨kvs, es, ed, hp, x⟩ := x
      subst ed
      obtain ⟨f1, f2, f3⟩ := r.fresh np
      have ks : ∀ {kvs : List (Key × V)} {es : List (Dt × Dt)}, KvA K (fun a => FM f Δ σ true fr a ∧ a ≠ p) H' kvs es → kvs.map (fun kv => keyD kv.1) = es.map (fun e => e.1) := fun {kvs es} x => by
        induction x with
        | nil => rfl
        | cons h r ih => rw [List.map_cons, List.map_cons, ih]
      have vs : ∀ {kvs : List (Key × V)} {es : List (Dt × Dt)}, KvA K (fun a => FM f Δ σ true fr a ∧ a ≠ p) H' kvs es → RpA K (FM f Δ σ true fr) H' (kvs.map fun kv => kv.2) (es.map fun e => e.2) := fun {kvs es} x => by
        induction x with
        | nil => exact .nil
        | cons h r ih => exact .cons (h.weak fun _ y => y.1) ih
      exact q _ H' s (.dic hp ⟨fun _ => ⟨f1, f2⟩, fun _ => r.g0 p f3⟩ (ks x) (vs x))
theorem PD.nvD {X : Cx} {K : PySem.W.Frag} {W : Wt} {Δ : List Kd} {e : Expr} {te : TE} {g : Gd} {fr : Bool} (h : PD X K W Δ e te (.new .dk fr) g) : PD X K W Δ e te (.v true fr) g := ⟨h.pe, h.hK, h.se.nvD⟩
end Sim
end T_SimXB

section T_SimXE
set_option Elab.async false
set_option linter.all false
set_option maxRecDepth 100000
/-! SimXE: x.extend(a kept list), a list of one's own times an int. -/
namespace Sim
open PySem PySem.Spec L2
open PyProof.Rows hiding St

theorem ext_any (l : Addr) (items : Array Value) (n : Nat) (b : Addr) (items2 : Array Value) (n2 : Nat) (sl : Array (Option Value)) (hc0 : ¬(!items.isEmpty && Builtin.List.listTooLong (items.size + items2.size)) = true) (hc1 : items.size ≤ sizeLine) (hs2 : items.size + items2.size ≤ sizeLine + 1) :
    Meets (Builtin.«list.extend» ⟨[.ref l, .ref b], []⟩) (fun _ R s => s.heap.get? l = some { cls := .type "list", dict := none, data := .seq items n, slots := #[] } ∧ s.heap.get? b = some { cls := .type "list", dict := none, data := .seq items2 n2, slots := sl } ∧ R (.ok (.ret Value.none)) { s with heap := s.heap.update l (Obj.mapSeq fun x => x ++ items2), toks := s.toks }) :=
  .of_wp fun prog w A R s h => by
    obtain ⟨hp, g, d, tk, os⟩ := s
    obtain ⟨hl, hb, h⟩ := h
    have f1 := AutoSeq1.idx_int
    have f2 := AutoSeq1.sub_tuple_tuple
    have f3 := AutoSeq1.sub_list_list
    have f4 := AutoSeq1.sub_tuple_list
    have f5 := AutoSeq1.sub_list_tuple
    have hz' : (items ++ items2).size ≤ sizeLine + 1 := by rw [Array.size_append]; exact hs2
    wp_walk using (wpAny_updateSeq hl rfl (hz := hc1) (_hz' := hz')), AutoSeq1.wpAny_loadPart' hl, AutoSeq1.wpAny_loadPart' hb
    exact ⟨_, rfl, h⟩
def rExtS (K : PySem.W.Frag) : V → List V → Hp → VK → Prop := fun x vs H Q => ∃ l b xs zs, x = .ref l ∧ vs = [.ref b] ∧ H l = some (.lst xs) ∧ SqL K H b zs ∧ xs.length + zs.length ≤ sizeLine ∧ Q .non (upd H l (.lst (xs ++ zs)))
theorem mt_extS {X : Cx} : MtM X "list.extend" (rExtS X.K) := by
  intro pins s σ H x vs v us Q I rx rv h
  obtain ⟨l, b, xs, zs, rfl, rfl, hH, hB, hz, q⟩ := h
  cases rx
  obtain ⟨u, rfl, ru⟩ := rv.one
  cases ru
  obtain ⟨z, its, n, r, hl, e⟩ := I.lstM hH
  obtain ⟨its2, r2, ⟨⟨cls2, dd2, data2, sl2⟩, n2, e2, hc2, hd2, hdt2⟩, hl2⟩ := I.list hB
  simp only at hc2 hd2 hdt2
  subst hc2 hd2 hdt2
  have l2 := r2.length
  have hsz : its.toArray.size + its2.toArray.size ≤ sizeLine := by rw [List.size_toArray, List.size_toArray]; omega
  have hlong : ¬ (!its.toArray.isEmpty && Builtin.List.listTooLong (its.toArray.size + its2.toArray.size)) = true := by
    rw [notLongL hsz, Bool.and_false]
    exact Bool.false_ne_true
  refine call_meets F.slot_list_extend ⟨_, e, rfl⟩ F.entry_list_extend (F.args_list_extend_2 _ _)
    (ext_any l its.toArray n b its2.toArray n2 sl2 hlong (by rw [List.size_toArray]; omega) (by omega)) ⟨e, e2, ?_⟩
  refine ⟨.non, _, I.lset (its' := its ++ its2) hH e (by simp) (r.append r2) ?_, rfl, q⟩
  rw [List.length_append]
  omega
section
variable {K : PySem.W.Frag} {W : Wt} {Δ Δb Δc : List Kd} {te ta tb : TE} {g ga gb : Gd} {fr fr' av' : Bool} {L : Lk} {i : Nat}
theorem s_extV (hk : Δ[i]? = some (.own .l fr)) (h : SE K W Δ te (.v true fr') g) : SS K W L Δ (Δ.set i (.own .l (fr && fr'))) Δb Δc (tDrop (tBM K "list" (rExtS K) (tVar i) (tCons te tNil))) (gExt i g) := fun f ρ σ H E r q => by
  obtain ⟨p, d, h1, h2, h3, vs, ds, ed, h4, h5⟩ := r.ow i .l fr hk
  subst ed
  unfold gExt at q
  rw [h2] at q
  simp only at q
  refine ⟨_, h1, .inl ⟨rfl, _, .inl (.inl h4)⟩, h f ρ σ H _ r ?_⟩
  cases e : g ρ with
  | bad => rw [e] at q; exact q
  | ex z => rw [e] at q; exact fun H' s => q σ H' (r.ext.trans s)
  | ok d =>
    rw [e, bnd_ok] at q
    intro v H1 s x
    cases d with
    | list es =>
      simp only at q
      by_cases hl : ds.length + es.length ≤ 100000
      · rw [if_pos hl] at q
        obtain ⟨b, ws, rfl, hb, x⟩ := x.sql
        have hp := s _ _ h4
        have hl2 : vs.length + ws.length ≤ sizeLine := by rw [h5.length, x.length]; exact sz_le hl
        refine ⟨p, b, vs, ws, rfl, rfl, hp, hb, hl2, q σ _ ?_⟩
        refine (r.mono s).updOwn hk h1 (c' := .l) (show Mutb (.lst _) from trivial) ⟨_, _, rfl, upd_same, ?_⟩
        have nf : ∀ {fr : Bool} (a : Addr), FM f Δ σ true fr a → a ≠ p := fun a fa z => (fa.1 rfl).1 (z ▸ ⟨i, .l, _, hk, h1⟩)
        exact (((h5.same s).updM hp trivial fun a fa => nf a fa).weak fun a y => y.weak id fun h => (Bool.and_eq_true_iff.mp h).1).append
          ((x.updM hp trivial fun a fa => nf a fa).weak fun a y => y.weak id fun h => (Bool.and_eq_true_iff.mp h).2)
      · rw [if_neg hl] at q
        exact q.elim
    | _ => exact q.elim
theorem se_repO (ha : SE K W Δ ta (.o fr) ga) (hb : SE K W Δ tb (.v av' fr') gb) : SE K W Δ (tOp rRep ta tb) (.new .l fr) (gOp hRep ga gb) := fun f ρ σ H Q R q => by
  refine ha f ρ σ H _ R ?_
  unfold gOp at q
  cases e1 : ga ρ with
  | bad => rw [e1] at q; exact q
  | ex z => rw [e1] at q; exact q
  | ok d =>
    rw [e1, bnd_ok] at q
    intro pp H1 vs ds ed s1 hp gp x1
    subst ed
    refine hb f ρ σ H1 _ (R.mono s1) ?_
    cases e2 : gb ρ with
    | bad => rw [e2] at q; exact q
    | ex z => rw [e2] at q; exact fun H' s => q H' (s1.trans s)
    | ok d2 =>
      rw [e2, bnd_ok] at q
      intro v2 H2 s2 x2
      cases d2 with
      | int k =>
        unfold hRep at q
        simp only at q
        by_cases hz : -(2 ^ 63) ≤ k ∧ k < 2 ^ 63 ∧ ds.length * k.toNat ≤ 100000
        · rw [if_pos hz] at q
          have r := x1.same s2
          rw [rpInt x2]
          refine ⟨pp, k, vs, rfl, rfl, s2 _ _ hp, hz.1, hz.2.1, sz_le (by rw [r.length]; exact hz.2.2), fun p np => ?_⟩
          have s12 := s1.trans s2
          exact q p _ (s12.free np) (s12.trans (same_upd np)) ⟨_, _, rfl, upd_same, (r.mono (same_upd np) fun a y z => ⟨y, fun e => z (e ▸ np)⟩).flat _⟩
        · rw [if_neg hz] at q
          exact q.elim
      | _ => exact q.elim
end
section
variable {X : Cx} {K : PySem.W.Frag} {W : Wt} {L : Lk} {Δ Δb Δc : List Kd} {a b e : Expr} {ta tb te : TE} {ga gb g : Gd} {fr fr' av' : Bool} {pos : Pos}
theorem x_repO (ha : PD X K W Δ a ta (.o fr) ga) (hb : PD X K W Δ b tb (.v av' fr') gb) : PD X K W Δ (.BinOp a .Mult b pos) (tOp rRep ta tb) (.new .l fr) (gOp hRep ga gb) := ⟨pe_op op_rep ha.pe hb.pe, ha.hK, se_repO ha.se hb.se⟩
theorem z_extV (i : Nat) {x : Str} {p p1 p2 : Pos} (h : PD X K W Δ e te (.v true fr') g) (hk : Δ[i]? = some (.own .l fr) := by rfl) (hv : Vis X.env.scope x := by first | exact Or.inl rfl | exact Or.inr (Or.inl rfl) | exact Or.inr (Or.inr rfl)) (hN : X.N[i]? = some x := by rfl) (hd : (x == ("__debug__" : Str)) = false := by decide) (hcd : (x == ("__classdict__" : Str)) = false := by decide)
    (hbase : attributeBase (.Name x p) "extend" X.env (eval (.Name x p) X.env) = eval (.Name x p) X.env := by rfl)
    (hfew : ((backTo p2 (starEach [e] X.env)).all (fun x => !x.1) && (backToKw p2 (keywordEach [] X.env)).all (fun x => x.1.isSome)
      && decide ([e].length + ([] : List Keyword).length + (if ([] : List Keyword).isEmpty then 0 else 1) < 30)) = true := by rfl)
    (hline : (p1.endLine == p2.line) = true := by rfl) (hst : starEach [e] X.env = (false, eval e X.env) :: starEach [] X.env := by rfl) (hplain : (backTo p2 (starEach [] X.env)).any (·.1) = false := by rfl)
    (hs : swapsWith (.Call (.Attribute (.Name x p) "extend" p1) [e] [] p2) none pos.line X.env = pure false := by rfl) :
    SD X K W L Δ (Δ.set i (.own .l (fr && fr'))) Δb Δc (.Expr (.Call (.Attribute (.Name x p) "extend" p1) [e] [] p2) pos) (tDrop (tBM K "list" (rExtS K) (tVar i) (tCons te tNil))) (gExt i g) :=
  ⟨by have q := ps_expr (pos := pos) (pe_bm PySem.F.plainAttrs_list PySem.F.slot_list_extend PySem.F.type_list_extend mt_extS (pe_var hN hv hd hcd) (pa_cons h.pe pa_nil hst) hbase hfew hline hst hplain) hs; rw [h.hK] at q; exact q, h.hK, s_extV hk h.se⟩
end

/-! ### a kept list times an int -/
theorem rmul_any (a : Int) (t : Tok) (l : Addr) (items : Array Value) (n : Nat) (sl : Array (Option Value)) :
    Meets (Builtin.«int.__rmul__» ⟨[.int a t, .ref l], []⟩) (fun _ R s => s.heap.get? l = some { cls := .type "list", dict := none, data := .seq items n, slots := sl } ∧ R (.ok (.ret Value.notImplemented)) s) :=
  .of_wp fun prog w A R s h => by
    obtain ⟨hp, g, d, tk, os⟩ := s
    obtain ⟨hl, h⟩ := h
    wp_walk
    exact ⟨_, rfl, h⟩
theorem mul_any (l : Addr) (items : Array Value) (n : Nat) (x : Int) (u : Tok) (sl : Array (Option Value)) (hc0 : ¬(!Builtin.List.listFitsIndex x) = true) (hc1 : ¬items.size * x.toNat > (2 ^ 63 - 1) / 8) (hc2 : ¬Builtin.List.listTooLong (items.size * x.toNat) = true) :
    Meets (Builtin.«list.__mul__» ⟨[.ref l, .int x u], []⟩) (fun _ R s => s.heap.get? l = some { cls := .type "list", dict := none, data := .seq items n, slots := sl } ∧ R (.ok (.ret (Value.ref s.heap.objs.size))) { s with heap := s.heap.push { cls := Value.type "list", data := Data.seq (List.foldl (fun x1 x2 => x1 ++ x2) #[] (List.replicate (if items.isEmpty = true then 0 else x.toNat) items)) }, toks := s.toks }) :=
  .of_wp fun prog w A R s h => by
    obtain ⟨hp, g, d, tk, os⟩ := s
    obtain ⟨hl, h⟩ := h
    have hsz := AutoListH.joined_fits hc2
    wp_walk
    refine wpAny_ite_false (decide_eq_false (Nat.not_lt.mpr hsz)) ?_
    wp_walk
    exact ⟨_, rfl, h⟩
def rRepS (K : PySem.W.Frag) : R2 := fun x y H Q => ∃ l k xs, x = .ref l ∧ y = .int k ∧ SqL K H l xs ∧ -(2 ^ 63) ≤ k ∧ k < 2 ^ 63 ∧ xs.length * k.toNat ≤ sizeLine ∧
  ∀ p, H p = none → Q (.ref p) (upd H p (.lst (List.replicate k.toNat xs).flatten))
theorem op_repS {X : Cx} : OpR X (binaryOp .Mult) (rRepS X.K) := by
  intro pins s σ H x y v u Q I rx ry h
  obtain ⟨l, k, xs, rfl, rfl, hH, h1, h2, hz, q⟩ := h
  cases rx
  obtain ⟨t, rfl⟩ := ry
  obtain ⟨its, r, ⟨⟨cls, dd, data, sl⟩, n, e, hc, hd, hdt⟩, hl2⟩ := I.list hH
  simp only at hc hd hdt
  subst hc hd hdt
  have hl := r.length
  have hlen : its.toArray.size * k.toNat ≤ sizeLine := by rw [List.size_toArray, ← hl]; exact hz
  have hcap : ¬ its.toArray.size * k.toNat > (2 ^ 63 - 1) / 8 := by
    have : (sizeLine : Nat) ≤ (2 ^ 63 - 1) / 8 := by decide
    omega
  have hfit : ¬ (!Builtin.List.listFitsIndex k) = true := by
    rw [fitsIndex_both h1 h2]
    exact Bool.false_ne_true
  have hlong : ¬ Builtin.List.listTooLong (its.toArray.size * k.toNat) = true := by
    rw [notLongL hlen]
    exact Bool.false_ne_true
  have hnew : List.foldl (fun x1 x2 => x1 ++ x2) #[] (List.replicate (if its.toArray.isEmpty = true then 0 else k.toNat) its.toArray) = (List.replicate k.toNat its).flatten.toArray := by
    have f0 : ∀ m : Nat, List.foldl (fun x1 x2 => x1 ++ x2) #[] (List.replicate m its.toArray) = (List.replicate m its).flatten.toArray := fun m => by
      have := foldl_rep its m []
      rw [List.nil_append] at this
      exact this
    rw [f0]
    cases its with
    | nil => simp
    | cons a r' => rw [if_neg (by simp)]
  refine wpAny_binaryOp_repeat_ref (T := "list") (U := "int") (by decide) ⟨_, e, rfl⟩ (fun s' => typeIs_int s' k t) noFill_list_mul F.fills_int_mul F.slot_int_rmul repeat_list F.slot_int_index.lookup
    (call_meets F.slot_int_rmul (typeIs_int s k t) F.entry_int_rmul (F.args_int_rmul_2 _ _) (rmul_any k t l its.toArray n sl)
      ⟨e, rfl, ⟨_, e, rfl⟩, call_meets F.slot_list_mul ⟨_, e, rfl⟩ F.entry_list_mul (F.args_list_mul_2 _ _) (mul_any l its.toArray n k t sl hfit hcap hlong) ⟨e, ?_⟩⟩)
  rw [hnew]
  exact ⟨.ref _, _, I.lnew (t' := s.toks) (r.rep k.toNat) (by rw [PyProof.Rows.lm_len_rep_flat, Nat.mul_comm]; exact hz), rfl, q _ I.fresh⟩
theorem se_repV {K : PySem.W.Frag} {W : Wt} {Δ : List Kd} {ta tb : TE} {ga gb : Gd} {fr av' fr' : Bool} (ha : SE K W Δ ta (.v true fr) ga) (hb : SE K W Δ tb (.v av' fr') gb) : SE K W Δ (tOp (rRepS K) ta tb) (.new .l fr) (gOp hRep ga gb) := fun f ρ σ H Q R q => by
  refine ha f ρ σ H _ R ?_
  unfold gOp at q
  cases e1 : ga ρ with
  | bad => rw [e1] at q; exact q
  | ex z => rw [e1] at q; exact q
  | ok d =>
    rw [e1, bnd_ok] at q
    intro v H1 s1 x1
    refine hb f ρ σ H1 _ (R.mono s1) ?_
    cases e2 : gb ρ with
    | bad => rw [e2] at q; exact q
    | ex z => rw [e2] at q; exact fun H' s => q H' (s1.trans s)
    | ok d2 =>
      rw [e2, bnd_ok] at q
      intro v2 H2 s2 x2
      cases d with
      | list ds =>
        cases d2 with
        | int k =>
          unfold hRep at q
          simp only at q
          by_cases hz : -(2 ^ 63) ≤ k ∧ k < 2 ^ 63 ∧ ds.length * k.toNat ≤ 100000
          · rw [if_pos hz] at q
            obtain ⟨l, xs, rfl, hs, r⟩ := (x1.same s2).sql
            rw [rpInt x2]
            refine ⟨l, k, xs, rfl, rfl, hs, hz.1, hz.2.1, sz_le (by rw [r.length]; exact hz.2.2), fun p np => ?_⟩
            have s12 := s1.trans s2
            exact q p _ (s12.free np) (s12.trans (same_upd np)) ⟨_, _, rfl, upd_same, (r.mono (same_upd np) fun a y z => ⟨y, fun e => z (e ▸ np)⟩).flat _⟩
          · rw [if_neg hz] at q
            exact q.elim
        | _ => exact q.elim
      | _ => exact q.elim
theorem x_repV {X : Cx} {K : PySem.W.Frag} {W : Wt} {Δ : List Kd} {a b : Expr} {ta tb : TE} {ga gb : Gd} {fr av' fr' : Bool} {pos : Pos} (ha : PD X K W Δ a ta (.v true fr) ga) (hb : PD X K W Δ b tb (.v av' fr') gb) : PD X K W Δ (.BinOp a .Mult b pos) (tOp (rRepS K) ta tb) (.new .l fr) (gOp hRep ga gb) :=
  ⟨pe_op (by have q := op_repS (X := X); rw [ha.hK] at q; exact q) ha.pe hb.pe, ha.hK, se_repV ha.se hb.se⟩
end Sim
end T_SimXE

section T_FamA
set_option linter.all false
namespace FamA
open PySem Sim
def g_l_mixed : Gs := gSeqS (gSet 2 (gOp hMod (gOp hMul (gOp hAdd (gOp hAdd (gOp hMod (gVar 0) (gC (.int (2147483629)))) (gOp hMul (gC (.int (7919))) (gVar 1))) (gC (.int (11)))) (gC (.int (48271)))) (gC (.int (2147483647))))) (gSeqS (gSet 2 (gOp hMod (gOp hAdd (gOp hMod (gOp hMul (gVar 2) (gVar 2)) (gC (.int (2147483629)))) (gOp hMul (gC (.int (104729))) (gVar 1))) (gC (.int (2147483629))))) (gRet (gOp hMod (gOp hMul (gVar 2) (gC (.int (39373)))) (gC (.int (2147483647))))))
def f_l_mixed : List Dt → O Dt := fnN 3 g_l_mixed
def g_l_numbers_L1 : Gs := gSeqS (gSet 6 (gOp hAdd (gOp hMul (gVar 6) (gC (.int (2147483647)))) (gCallN 2 f_l_mixed (gCons (gVar 0) (gCons (gOp hAdd (gOp hMul (gC (.int (8))) (gVar 5)) (gVar 7)) (gNil)))))) (gSet 7 (gOp hAdd (gVar 7) (gC (.int (1)))))
def g_l_numbers_T1 : List Dt → O Bool := gTest (gOp hLt (gOp hMul (gVar 7) (gC (.int (30)))) (gOp hAdd (gUn hBits (gVar 2)) (gC (.int (8)))))
def g_l_numbers_L2 : Gs := gSeqS (gSet 6 (gVar 4)) (gSeqS (gIfS (gTest (gOp hGt (gVar 4) (gC (.int (0))))) (gSet 4 (gOp hDiv (gVar 4) (gVar 2))) (gSeqS (gSet 6 (gC (.int (0)))) (gSeqS (gSet 7 (gC (.int (0)))) (gWhile g_l_numbers_T1 g_l_numbers_L1 100)))) (gApp 3 (gOp hMod (gVar 6) (gVar 2))))
def g_l_numbers : Gs := gSeqS (gSet 3 (gLst (gNil))) (gSeqS (gSet 4 (gOp hSub (gVar 0) (gOp hPow (gC (.int (10))) (gC (.int (18)))))) (gSeqS (gFor (gRng1 (gCons (gVar 1) (gNil))) (tgN 5) g_l_numbers_L2) (gRet (gVar 3))))
def f_l_numbers : List Dt → O Dt := fnL 8 g_l_numbers
def g_l_ends : Gs := gSeqS (gSet 4 (gOp hMod (gVar 2) (gVar 0))) (gSeqS (gIfS (gTest (gOp hEq (gVar 1) (gC (.int (0))))) (gRet (gTup (gCons (gVar 4) (gCons (gOp hMod (gVar 3) (gVar 0)) (gNil))))) (gNext)) (gSeqS (gIfS (gTest (gOp hEq (gVar 1) (gC (.int (1))))) (gRet (gTup (gCons (gOp hMod (gVar 2) (gCB hMin2 (gCons (gVar 0) (gCons (gC (.int (3))) (gNil))))) (gCons (gOp hMod (gVar 3) (gCB hMin2 (gCons (gVar 0) (gCons (gC (.int (2))) (gNil))))) (gNil))))) (gNext)) (gSeqS (gIfS (gTest (gOp hEq (gVar 1) (gC (.int (2))))) (gRet (gTup (gCons (gVar 4) (gCons (gOp hMod (gOp hAdd (gOp hAdd (gVar 4) (gC (.int (1)))) (gOp hDiv (gOp hMod (gVar 3) (gC (.int (5)))) (gC (.int (4))))) (gVar 0)) (gNil))))) (gNext)) (gRet (gTup (gCons (gVar 4) (gCons (gOp hMod (gOp hAdd (gVar 4) (gOp hMul (gC (.int (2))) (gOp hMod (gVar 3) (gVar 0)))) (gVar 0)) (gNil))))))))
def f_l_ends : List Dt → O Dt := fnN 5 g_l_ends
def g_l_record_L1 : Gs := gSeqS (gAsg (gCallN 4 f_l_ends (gCons (gVar 2) (gCons (gOp hMod (gOp hIx (gVar 0) (gC (.int (3)))) (gC (.int (4)))) (gCons (gOp hIx (gVar 0) (gOp hAdd (gC (.int (4))) (gOp hMul (gC (.int (3))) (gVar 7)))) (gCons (gOp hIx (gVar 0) (gOp hAdd (gC (.int (5))) (gOp hMul (gC (.int (3))) (gVar 7)))) (gNil)))))) (tgT (tgCons (tgN 8) (tgCons (tgN 9) (tgNil))))) (gSeqS (gApp 6 (gTup (gCons (gVar 5) (gCons (gCB hMin2 (gCons (gVar 8) (gCons (gVar 9) (gNil)))) (gCons (gCB hMax2 (gCons (gVar 8) (gCons (gVar 9) (gNil)))) (gNil)))))) (gSet 5 (gOp hAdd (gOp hAdd (gVar 5) (gC (.int (1)))) (gOp hMod (gOp hIx (gVar 0) (gOp hAdd (gC (.int (6))) (gOp hMul (gC (.int (3))) (gVar 7)))) (gVar 4)))))
def g_l_record : Gs := gSeqS (gSet 2 (gOp hAdd (gC (.int (1))) (gOp hMod (gOp hIx (gVar 0) (gC (.int (0)))) (gC (.int (6)))))) (gSeqS (gIfS (gTest (gOp hEq (gOp hMod (gOp hDiv (gOp hIx (gVar 0) (gC (.int (0)))) (gC (.int (6)))) (gC (.int (8)))) (gC (.int (1))))) (gSet 2 (gOp hAdd (gC (.int (7))) (gOp hMod (gOp hDiv (gOp hIx (gVar 0) (gC (.int (0)))) (gC (.int (48)))) (gC (.int (4)))))) (gNext)) (gSeqS (gSet 3 (gOp hMod (gOp hIx (gVar 0) (gC (.int (1)))) (gC (.int (13))))) (gSeqS (gIfS (gTest (gOp hEq (gOp hMod (gOp hDiv (gOp hIx (gVar 0) (gC (.int (1)))) (gC (.int (13)))) (gC (.int (8)))) (gC (.int (1))))) (gSet 3 (gOp hAdd (gC (.int (13))) (gOp hMod (gOp hDiv (gOp hIx (gVar 0) (gC (.int (1)))) (gC (.int (104)))) (gC (.int (48)))))) (gNext)) (gSeqS (gSet 4 (gOp hIx (gLst (gCons (gC (.int (1))) (gCons (gC (.int (4))) (gCons (gOp hPow (gC (.int (10))) (gC (.int (28)))) (gNil))))) (gOp hMod (gOp hIx (gVar 0) (gC (.int (2)))) (gC (.int (3)))))) (gSeqS (gSet 5 (gOp hIx (gLst (gCons (gC (.int (0))) (gCons (gOp hMod (gOp hDiv (gOp hIx (gVar 0) (gC (.int (2)))) (gC (.int (12)))) (gC (.int (100)))) (gCons (gOp hMod (gOp hIx (gVar 0) (gC (.int (3)))) (gOp hPow (gC (.int (10))) (gC (.int (29))))) (gNil))))) (gOp hMod (gOp hDiv (gOp hIx (gVar 0) (gC (.int (2)))) (gC (.int (3)))) (gC (.int (3)))))) (gSeqS (gSet 6 (gLst (gNil))) (gSeqS (gFor (gRng1 (gCons (gCB hMin3 (gCons (gVar 3) (gCons (gVar 1) (gCons (gOp hDiv (gOp hSub (gCB hLen (gCons (gVar 0) (gNil))) (gC (.int (4)))) (gC (.int (3)))) (gNil))))) (gNil))) (tgN 7) g_l_record_L1) (gRet (gTup (gCons (gVar 2) (gCons (gVar 6) (gNil))))))))))))
def f_l_record : List Dt → O Dt := fnN 10 g_l_record
end FamA
end T_FamA

section T_FamAP
set_option linter.all false
set_option maxRecDepth 100000
namespace FamA
open PySem Sim

abbrev B30 : Int := 1000000000000000000000000000000
theorem mixed_ok (cell k : Int) : ∃ z, f_l_mixed [.int cell, .int k] = .ok (.int z) ∧ 0 ≤ z ∧ z < 2147483647 := by
  unfold f_l_mixed fnN g_l_mixed
  simp (disch := omega) only [bnd_ok, gVar_def, gC_def, gOp_def, gUn_def, gNil_def, gCons_def, gIf_def, gTest_def, gNot_def, gAnd_def, gOr_def, gAndV_def, gOrV_def, gNotV_def, gCB_def, asB_b, hAdd_i, hSub_i, hLt_i, hLe_i, hGt_i, hGe_i, hMul_r, hMul_l, hMod_i, hDiv_s, hBand_i, hShr_i, hPow_10_18, hPow_10_27, hPow_10_28, hPow_10_29, hPow_10_30, hEq_i, hNe_i, hLen_l, hLen_t, hMin2_i, hMax2_i, hMin3_i, hInt1_b, hInt1_i, hBits_i, hListOf_l, hListOf_t, hTupOf_l, hTupOf_t, gSeqS_def, gSet_def, gRet_def, gIfS_def, gNext_def, gTup_def, gLst_def, List.getElem?_cons_zero, List.getElem?_cons_succ, List.set_cons_zero, List.set_cons_succ, List.length_cons, List.length_nil, Nat.zero_add, Nat.reduceAdd, Nat.reduceLeDiff, Nat.reduceSub, Nat.reduceMul, if_true, if_false, Bool.false_eq_true, List.replicate_succ, List.replicate_zero, List.cons_append, List.nil_append, tgN, tgT, tgCons, tgNil, Int.reducePow, Int.reduceAdd, Int.reduceSub, Int.reduceMul, decide_true, decide_false, Bool.not_true, Bool.not_false, gChain_def, hIsa_int, hIsa_intb, hIsa_list, hIsa_tuple, gDrop_def]
  exact ⟨_, rfl, by omega, by omega⟩
theorem ends_ok (n kind one other : Int) (hn : 1 ≤ n) : ∃ a b, f_l_ends [.int n, .int kind, .int one, .int other] = .ok (.tuple [.int a, .int b]) ∧ 0 ≤ a ∧ a < n ∧ 0 ≤ b ∧ b < n := by
  unfold f_l_ends fnN g_l_ends
  have m0 := fun x : Int => Int.emod_nonneg x (show n ≠ 0 by omega)
  have m1 := fun x : Int => Int.emod_lt_of_pos x (show 0 < n by omega)
  by_cases h0 : kind = 0
  · subst h0
    simp (disch := omega) only [bnd_ok, gVar_def, gC_def, gOp_def, gUn_def, gNil_def, gCons_def, gIf_def, gTest_def, gNot_def, gAnd_def, gOr_def, gAndV_def, gOrV_def, gNotV_def, gCB_def, asB_b, hAdd_i, hSub_i, hLt_i, hLe_i, hGt_i, hGe_i, hMul_r, hMul_l, hMod_i, hDiv_s, hBand_i, hShr_i, hPow_10_18, hPow_10_27, hPow_10_28, hPow_10_29, hPow_10_30, hEq_i, hNe_i, hLen_l, hLen_t, hMin2_i, hMax2_i, hMin3_i, hInt1_b, hInt1_i, hBits_i, hListOf_l, hListOf_t, hTupOf_l, hTupOf_t, gSeqS_def, gSet_def, gRet_def, gIfS_def, gNext_def, gTup_def, gLst_def, List.getElem?_cons_zero, List.getElem?_cons_succ, List.set_cons_zero, List.set_cons_succ, List.length_cons, List.length_nil, Nat.zero_add, Nat.reduceAdd, Nat.reduceLeDiff, Nat.reduceSub, Nat.reduceMul, if_true, if_false, Bool.false_eq_true, List.replicate_succ, List.replicate_zero, List.cons_append, List.nil_append, tgN, tgT, tgCons, tgNil, Int.reducePow, Int.reduceAdd, Int.reduceSub, Int.reduceMul, decide_true, decide_false, Bool.not_true, Bool.not_false, gChain_def, hIsa_int, hIsa_intb, hIsa_list, hIsa_tuple, gDrop_def, beq_self_eq_true]
    exact ⟨_, _, rfl, m0 _, m1 _, m0 _, m1 _⟩
  · have e0 : (kind == 0) = false := beq_eq_false_iff_ne.mpr h0
    by_cases h1 : kind = 1
    · subst h1
      have q3 : 0 < (if (3 : Int) < n then 3 else n) := by split <;> omega
      have q2 : 0 < (if (2 : Int) < n then 2 else n) := by split <;> omega
      have q3' : (if (3 : Int) < n then 3 else n) ≤ n := by split <;> omega
      have q2' : (if (2 : Int) < n then 2 else n) ≤ n := by split <;> omega
      have p0 := Int.emod_nonneg one (show (if (3 : Int) < n then 3 else n) ≠ 0 by omega)
      have p1 := Int.emod_lt_of_pos one q3
      have p2 := Int.emod_nonneg other (show (if (2 : Int) < n then 2 else n) ≠ 0 by omega)
      have p3 := Int.emod_lt_of_pos other q2
      simp (disch := first | assumption | omega) only [bnd_ok, gVar_def, gC_def, gOp_def, gUn_def, gNil_def, gCons_def, gIf_def, gTest_def, gNot_def, gAnd_def, gOr_def, gAndV_def, gOrV_def, gNotV_def, gCB_def, asB_b, hAdd_i, hSub_i, hLt_i, hLe_i, hGt_i, hGe_i, hMul_r, hMul_l, hMod_i, hDiv_s, hBand_i, hShr_i, hPow_10_18, hPow_10_27, hPow_10_28, hPow_10_29, hPow_10_30, hEq_i, hNe_i, hLen_l, hLen_t, hMin2_i, hMax2_i, hMin3_i, hInt1_b, hInt1_i, hBits_i, hListOf_l, hListOf_t, hTupOf_l, hTupOf_t, gSeqS_def, gSet_def, gRet_def, gIfS_def, gNext_def, gTup_def, gLst_def, List.getElem?_cons_zero, List.getElem?_cons_succ, List.set_cons_zero, List.set_cons_succ, List.length_cons, List.length_nil, Nat.zero_add, Nat.reduceAdd, Nat.reduceLeDiff, Nat.reduceSub, Nat.reduceMul, if_true, if_false, Bool.false_eq_true, List.replicate_succ, List.replicate_zero, List.cons_append, List.nil_append, tgN, tgT, tgCons, tgNil, Int.reducePow, Int.reduceAdd, Int.reduceSub, Int.reduceMul, decide_true, decide_false, Bool.not_true, Bool.not_false, gChain_def, hIsa_int, hIsa_intb, hIsa_list, hIsa_tuple, gDrop_def, beq_self_eq_true, e0]
      exact ⟨_, _, rfl, p0, Int.lt_of_lt_of_le p1 q3', p2, Int.lt_of_lt_of_le p3 q2'⟩
    · have e1 : (kind == 1) = false := beq_eq_false_iff_ne.mpr h1
      by_cases h2 : kind = 2
      · subst h2
        simp (disch := omega) only [bnd_ok, gVar_def, gC_def, gOp_def, gUn_def, gNil_def, gCons_def, gIf_def, gTest_def, gNot_def, gAnd_def, gOr_def, gAndV_def, gOrV_def, gNotV_def, gCB_def, asB_b, hAdd_i, hSub_i, hLt_i, hLe_i, hGt_i, hGe_i, hMul_r, hMul_l, hMod_i, hDiv_s, hBand_i, hShr_i, hPow_10_18, hPow_10_27, hPow_10_28, hPow_10_29, hPow_10_30, hEq_i, hNe_i, hLen_l, hLen_t, hMin2_i, hMax2_i, hMin3_i, hInt1_b, hInt1_i, hBits_i, hListOf_l, hListOf_t, hTupOf_l, hTupOf_t, gSeqS_def, gSet_def, gRet_def, gIfS_def, gNext_def, gTup_def, gLst_def, List.getElem?_cons_zero, List.getElem?_cons_succ, List.set_cons_zero, List.set_cons_succ, List.length_cons, List.length_nil, Nat.zero_add, Nat.reduceAdd, Nat.reduceLeDiff, Nat.reduceSub, Nat.reduceMul, if_true, if_false, Bool.false_eq_true, List.replicate_succ, List.replicate_zero, List.cons_append, List.nil_append, tgN, tgT, tgCons, tgNil, Int.reducePow, Int.reduceAdd, Int.reduceSub, Int.reduceMul, decide_true, decide_false, Bool.not_true, Bool.not_false, gChain_def, hIsa_int, hIsa_intb, hIsa_list, hIsa_tuple, gDrop_def, beq_self_eq_true, e0, e1]
        exact ⟨_, _, rfl, m0 _, m1 _, m0 _, m1 _⟩
      · have e2 : (kind == 2) = false := beq_eq_false_iff_ne.mpr h2
        simp (disch := omega) only [bnd_ok, gVar_def, gC_def, gOp_def, gUn_def, gNil_def, gCons_def, gIf_def, gTest_def, gNot_def, gAnd_def, gOr_def, gAndV_def, gOrV_def, gNotV_def, gCB_def, asB_b, hAdd_i, hSub_i, hLt_i, hLe_i, hGt_i, hGe_i, hMul_r, hMul_l, hMod_i, hDiv_s, hBand_i, hShr_i, hPow_10_18, hPow_10_27, hPow_10_28, hPow_10_29, hPow_10_30, hEq_i, hNe_i, hLen_l, hLen_t, hMin2_i, hMax2_i, hMin3_i, hInt1_b, hInt1_i, hBits_i, hListOf_l, hListOf_t, hTupOf_l, hTupOf_t, gSeqS_def, gSet_def, gRet_def, gIfS_def, gNext_def, gTup_def, gLst_def, List.getElem?_cons_zero, List.getElem?_cons_succ, List.set_cons_zero, List.set_cons_succ, List.length_cons, List.length_nil, Nat.zero_add, Nat.reduceAdd, Nat.reduceLeDiff, Nat.reduceSub, Nat.reduceMul, if_true, if_false, Bool.false_eq_true, List.replicate_succ, List.replicate_zero, List.cons_append, List.nil_append, tgN, tgT, tgCons, tgNil, Int.reducePow, Int.reduceAdd, Int.reduceSub, Int.reduceMul, decide_true, decide_false, Bool.not_true, Bool.not_false, gChain_def, hIsa_int, hIsa_intb, hIsa_list, hIsa_tuple, gDrop_def, e0, e1, e2]
        exact ⟨_, _, rfl, m0 _, m1 _, m0 _, m1 _⟩

theorem bits30 : Builtin.Int.intBits 1000000000000000000000000000000 = 100 := by decide +kernel
def wB : Gs := gSeqS (gSet 6 (gOp hAdd (gOp hMul (gVar 6) (gC (.int (2147483647)))) (gCallN 2 f_l_mixed (gCons (gVar 0) (gCons (gOp hAdd (gOp hMul (gC (.int (8))) (gVar 5)) (gVar 7)) (gNil)))))) (gSet 7 (gOp hAdd (gVar 7) (gC (.int (1)))))
def wT : List Dt → O Bool := gTest (gOp hLt (gOp hMul (gVar 7) (gC (.int (30)))) (gOp hAdd (gUn hBits (gVar 2)) (gC (.int (8)))))
theorem wB_ok (c k x t : Int) (a f l : Dt) : ∃ y, wB [.int c, a, .int B30, f, l, .int k, .int x, .int t] = .ok (.nx [.int c, a, .int B30, f, l, .int k, .int y, .int (t + 1)]) := by
  obtain ⟨z, hz, _, _⟩ := mixed_ok c (8 * k + t)
  unfold wB
  have h1 : gCallN 2 f_l_mixed (gCons (gVar 0) (gCons (gOp hAdd (gOp hMul (gC (.int (8))) (gVar 5)) (gVar 7)) (gNil))) [.int c, a, .int B30, f, l, .int k, .int x, .int t] = .ok (.int z) := by
    refine callN_ok (ds := [.int c, .int (8 * k + t)]) ?_ rfl hz
    simp (disch := omega) only [bnd_ok, gVar_def, gC_def, gOp_def, gUn_def, gNil_def, gCons_def, gIf_def, gTest_def, gNot_def, gAnd_def, gOr_def, gAndV_def, gOrV_def, gNotV_def, gCB_def, asB_b, hAdd_i, hSub_i, hLt_i, hLe_i, hGt_i, hGe_i, hMul_r, hMul_l, hMod_i, hDiv_s, hBand_i, hShr_i, hPow_10_18, hPow_10_27, hPow_10_28, hPow_10_29, hPow_10_30, hEq_i, hNe_i, hLen_l, hLen_t, hMin2_i, hMax2_i, hMin3_i, hInt1_b, hInt1_i, hBits_i, hListOf_l, hListOf_t, hTupOf_l, hTupOf_t, gSeqS_def, gSet_def, gRet_def, gIfS_def, gNext_def, gTup_def, gLst_def, List.getElem?_cons_zero, List.getElem?_cons_succ, List.set_cons_zero, List.set_cons_succ, List.length_cons, List.length_nil, Nat.zero_add, Nat.reduceAdd, Nat.reduceLeDiff, Nat.reduceSub, Nat.reduceMul, if_true, if_false, Bool.false_eq_true, List.replicate_succ, List.replicate_zero, List.cons_append, List.nil_append, tgN, tgT, tgCons, tgNil, Int.reducePow, Int.reduceAdd, Int.reduceSub, Int.reduceMul, decide_true, decide_false, Bool.not_true, Bool.not_false, gChain_def, hIsa_int, hIsa_intb, hIsa_list, hIsa_tuple, gDrop_def]
  simp (disch := omega) only [bnd_ok, gVar_def, gC_def, gOp_def, gUn_def, gNil_def, gCons_def, gIf_def, gTest_def, gNot_def, gAnd_def, gOr_def, gAndV_def, gOrV_def, gNotV_def, gCB_def, asB_b, hAdd_i, hSub_i, hLt_i, hLe_i, hGt_i, hGe_i, hMul_r, hMul_l, hMod_i, hDiv_s, hBand_i, hShr_i, hPow_10_18, hPow_10_27, hPow_10_28, hPow_10_29, hPow_10_30, hEq_i, hNe_i, hLen_l, hLen_t, hMin2_i, hMax2_i, hMin3_i, hInt1_b, hInt1_i, hBits_i, hListOf_l, hListOf_t, hTupOf_l, hTupOf_t, gSeqS_def, gSet_def, gRet_def, gIfS_def, gNext_def, gTup_def, gLst_def, List.getElem?_cons_zero, List.getElem?_cons_succ, List.set_cons_zero, List.set_cons_succ, List.length_cons, List.length_nil, Nat.zero_add, Nat.reduceAdd, Nat.reduceLeDiff, Nat.reduceSub, Nat.reduceMul, if_true, if_false, Bool.false_eq_true, List.replicate_succ, List.replicate_zero, List.cons_append, List.nil_append, tgN, tgT, tgCons, tgNil, Int.reducePow, Int.reduceAdd, Int.reduceSub, Int.reduceMul, decide_true, decide_false, Bool.not_true, Bool.not_false, gChain_def, hIsa_int, hIsa_intb, hIsa_list, hIsa_tuple, gDrop_def, h1]
  exact ⟨_, rfl⟩
theorem wT_ok (c k x t : Int) (a f l : Dt) : wT [.int c, a, .int B30, f, l, .int k, .int x, .int t] = .ok (decide (t * 30 < 108)) := by
  unfold wT
  simp (disch := omega) only [bnd_ok, gVar_def, gC_def, gOp_def, gUn_def, gNil_def, gCons_def, gIf_def, gTest_def, gNot_def, gAnd_def, gOr_def, gAndV_def, gOrV_def, gNotV_def, gCB_def, asB_b, hAdd_i, hSub_i, hLt_i, hLe_i, hGt_i, hGe_i, hMul_r, hMul_l, hMod_i, hDiv_s, hBand_i, hShr_i, hPow_10_18, hPow_10_27, hPow_10_28, hPow_10_29, hPow_10_30, hEq_i, hNe_i, hLen_l, hLen_t, hMin2_i, hMax2_i, hMin3_i, hInt1_b, hInt1_i, hBits_i, hListOf_l, hListOf_t, hTupOf_l, hTupOf_t, gSeqS_def, gSet_def, gRet_def, gIfS_def, gNext_def, gTup_def, gLst_def, List.getElem?_cons_zero, List.getElem?_cons_succ, List.set_cons_zero, List.set_cons_succ, List.length_cons, List.length_nil, Nat.zero_add, Nat.reduceAdd, Nat.reduceLeDiff, Nat.reduceSub, Nat.reduceMul, if_true, if_false, Bool.false_eq_true, List.replicate_succ, List.replicate_zero, List.cons_append, List.nil_append, tgN, tgT, tgCons, tgNil, Int.reducePow, Int.reduceAdd, Int.reduceSub, Int.reduceMul, decide_true, decide_false, Bool.not_true, Bool.not_false, gChain_def, hIsa_int, hIsa_intb, hIsa_list, hIsa_tuple, gDrop_def, bits30]
  rfl
theorem wh_ok (c k : Int) (a f l : Dt) : ∃ y, gWhile wT wB 100 [.int c, a, .int B30, f, l, .int k, .int 0, .int 0] = .ok (.nx [.int c, a, .int B30, f, l, .int k, .int y, .int 4]) := by
  obtain ⟨y1, h1⟩ := wB_ok c k 0 0 a f l
  obtain ⟨y2, h2⟩ := wB_ok c k y1 1 a f l
  obtain ⟨y3, h3⟩ := wB_ok c k y2 2 a f l
  obtain ⟨y4, h4⟩ := wB_ok c k y3 3 a f l
  refine ⟨y4, ?_⟩
  rw [while_t (n := 99) (wT_ok c k 0 0 a f l) h1]
  show gWhile wT wB 99 [.int c, a, .int B30, f, l, .int k, .int y1, .int 1] = _
  rw [while_t (n := 98) (wT_ok c k y1 1 a f l) h2]
  show gWhile wT wB 98 [.int c, a, .int B30, f, l, .int k, .int y2, .int 2] = _
  rw [while_t (n := 97) (wT_ok c k y2 2 a f l) h3]
  show gWhile wT wB 97 [.int c, a, .int B30, f, l, .int k, .int y3, .int 3] = _
  rw [while_t (n := 96) (wT_ok c k y3 3 a f l) h4]
  exact while_f (wT_ok c k y4 4 a f l)
theorem numbers_ok (cell many : Int) (h0 : 0 ≤ many) (h1 : many ≤ 1000) : ∃ xs : List Int, f_l_numbers [.int cell, .int many, .int B30] = .ok (.list (xs.map .int)) ∧ xs.length = many.toNat ∧ ∀ x ∈ xs, 0 ≤ x ∧ x < B30 := by
  obtain ⟨n, rfl⟩ : ∃ n : Nat, many = n := ⟨many.toNat, by omega⟩
  obtain ⟨ρ', hf, xs, l, d5, d6, d7, rfl, hl, hx⟩ := forE_ix (fun (k : Nat) => PyData.int (k : Int)) (h := tgN 5)
    (b := gSeqS (gSet 6 (gVar 4)) (gSeqS (gIfS (gTest (gOp hGt (gVar 4) (gC (.int (0))))) (gSet 4 (gOp hDiv (gVar 4) (gVar 2))) (gSeqS (gSet 6 (gC (.int (0)))) (gSeqS (gSet 7 (gC (.int (0)))) (gWhile wT wB 100)))) (gApp 3 (gOp hMod (gVar 6) (gVar 2)))))
    (List.range n) (fun i ρ => ∃ (xs : List Int) (l : Int) (d5 d6 d7 : Dt), ρ = [.int cell, .int n, .int B30, .list (xs.map .int), .int l, d5, d6, d7] ∧ xs.length = i ∧ ∀ x ∈ xs, 0 ≤ x ∧ x < B30)
    (ρ := [.int cell, .int n, .int B30, .list [], .int (cell - 1000000000000000000), .none, .none, .none]) ⟨[], _, _, _, _, rfl, rfl, by simp⟩ (by
      rintro i ρ hi ⟨xs, l, d5, d6, d7, rfl, hl, hx⟩
      rw [List.getElem_range]
      rw [List.length_range] at hi
      have app : ∀ (l x : Int) (d7 : Dt), gApp 3 (gOp hMod (gVar 6) (gVar 2)) [.int cell, .int n, .int B30, .list (xs.map .int), .int l, .int i, .int x, d7] = .ok (.nx [.int cell, .int n, .int B30, .list ((xs ++ [x % B30]).map .int), .int l, .int i, .int x, d7]) := fun l x d7 => by
        refine (gApp_l (ds := xs.map .int) (d := .int (x % B30)) rfl ?_ (by rw [List.length_map]; omega)).trans ?_
        · simp (disch := first | omega | decide) only [bnd_ok, gVar_def, gC_def, gOp_def, gUn_def, gNil_def, gCons_def, gIf_def, gTest_def, gNot_def, gAnd_def, gOr_def, gAndV_def, gOrV_def, gNotV_def, gCB_def, asB_b, hAdd_i, hSub_i, hLt_i, hLe_i, hGt_i, hGe_i, hMul_r, hMul_l, hMod_i, hDiv_s, hBand_i, hShr_i, hPow_10_18, hPow_10_27, hPow_10_28, hPow_10_29, hPow_10_30, hEq_i, hNe_i, hLen_l, hLen_t, hMin2_i, hMax2_i, hMin3_i, hInt1_b, hInt1_i, hBits_i, hListOf_l, hListOf_t, hTupOf_l, hTupOf_t, gSeqS_def, gSet_def, gRet_def, gIfS_def, gNext_def, gTup_def, gLst_def, List.getElem?_cons_zero, List.getElem?_cons_succ, List.set_cons_zero, List.set_cons_succ, List.length_cons, List.length_nil, Nat.zero_add, Nat.reduceAdd, Nat.reduceLeDiff, Nat.reduceSub, Nat.reduceMul, if_true, if_false, Bool.false_eq_true, List.replicate_succ, List.replicate_zero, List.cons_append, List.nil_append, tgN, tgT, tgCons, tgNil, Int.reducePow, Int.reduceAdd, Int.reduceSub, Int.reduceMul, decide_true, decide_false, Bool.not_true, Bool.not_false, gChain_def, hIsa_int, hIsa_intb, hIsa_list, hIsa_tuple, gDrop_def]
        · rw [map_snoc]; rfl
      have fin : ∀ (x : Int), ∀ y ∈ xs ++ [x % B30], 0 ≤ y ∧ y < B30 := fun x y hy => by
        rcases List.mem_append.mp hy with h | h
        · exact hx y h
        · have := List.mem_singleton.mp h
          subst this
          unfold B30
          constructor <;> omega
      by_cases hp : 0 < l
      · refine ⟨_, _, rfl, .inl ?_, xs ++ [l % B30], l / B30, .int i, .int l, d7, rfl, by rw [List.length_append, hl]; rfl, fin l⟩
        have e : decide (0 < l) = true := decide_eq_true hp
        simp (disch := first | omega | decide) only [bnd_ok, gVar_def, gC_def, gOp_def, gUn_def, gNil_def, gCons_def, gIf_def, gTest_def, gNot_def, gAnd_def, gOr_def, gAndV_def, gOrV_def, gNotV_def, gCB_def, asB_b, hAdd_i, hSub_i, hLt_i, hLe_i, hGt_i, hGe_i, hMul_r, hMul_l, hMod_i, hDiv_s, hBand_i, hShr_i, hPow_10_18, hPow_10_27, hPow_10_28, hPow_10_29, hPow_10_30, hEq_i, hNe_i, hLen_l, hLen_t, hMin2_i, hMax2_i, hMin3_i, hInt1_b, hInt1_i, hBits_i, hListOf_l, hListOf_t, hTupOf_l, hTupOf_t, gSeqS_def, gSet_def, gRet_def, gIfS_def, gNext_def, gTup_def, gLst_def, List.getElem?_cons_zero, List.getElem?_cons_succ, List.set_cons_zero, List.set_cons_succ, List.length_cons, List.length_nil, Nat.zero_add, Nat.reduceAdd, Nat.reduceLeDiff, Nat.reduceSub, Nat.reduceMul, if_true, if_false, Bool.false_eq_true, List.replicate_succ, List.replicate_zero, List.cons_append, List.nil_append, tgN, tgT, tgCons, tgNil, Int.reducePow, Int.reduceAdd, Int.reduceSub, Int.reduceMul, decide_true, decide_false, Bool.not_true, Bool.not_false, gChain_def, hIsa_int, hIsa_intb, hIsa_list, hIsa_tuple, gDrop_def, e, app]
      · obtain ⟨y, hy⟩ := wh_ok cell i (.int n) (.list (xs.map .int)) (.int l)
        refine ⟨_, _, rfl, .inl ?_, xs ++ [y % B30], l, .int i, .int y, .int 4, rfl, by rw [List.length_append, hl]; rfl, fin y⟩
        have e : decide (0 < l) = false := decide_eq_false hp
        simp (disch := first | omega | decide) only [bnd_ok, gVar_def, gC_def, gOp_def, gUn_def, gNil_def, gCons_def, gIf_def, gTest_def, gNot_def, gAnd_def, gOr_def, gAndV_def, gOrV_def, gNotV_def, gCB_def, asB_b, hAdd_i, hSub_i, hLt_i, hLe_i, hGt_i, hGe_i, hMul_r, hMul_l, hMod_i, hDiv_s, hBand_i, hShr_i, hPow_10_18, hPow_10_27, hPow_10_28, hPow_10_29, hPow_10_30, hEq_i, hNe_i, hLen_l, hLen_t, hMin2_i, hMax2_i, hMin3_i, hInt1_b, hInt1_i, hBits_i, hListOf_l, hListOf_t, hTupOf_l, hTupOf_t, gSeqS_def, gSet_def, gRet_def, gIfS_def, gNext_def, gTup_def, gLst_def, List.getElem?_cons_zero, List.getElem?_cons_succ, List.set_cons_zero, List.set_cons_succ, List.length_cons, List.length_nil, Nat.zero_add, Nat.reduceAdd, Nat.reduceLeDiff, Nat.reduceSub, Nat.reduceMul, if_true, if_false, Bool.false_eq_true, List.replicate_succ, List.replicate_zero, List.cons_append, List.nil_append, tgN, tgT, tgCons, tgNil, Int.reducePow, Int.reduceAdd, Int.reduceSub, Int.reduceMul, decide_true, decide_false, Bool.not_true, Bool.not_false, gChain_def, hIsa_int, hIsa_intb, hIsa_list, hIsa_tuple, gDrop_def, e, hy, app])
  refine ⟨xs, ?_, by rw [hl, List.length_range]; omega, hx⟩
  refine fnL_rt ?_
  show g_l_numbers [.int cell, .int n, .int B30, .none, .none, .none, .none, .none] = _
  unfold g_l_numbers
  have e1 : gSet 3 (gLst gNil) [.int cell, .int n, .int B30, .none, .none, .none, .none, .none] = .ok (.nx [.int cell, .int n, .int B30, .list [], .none, .none, .none, .none]) := by
    simp (disch := first | omega | decide) only [bnd_ok, gVar_def, gC_def, gOp_def, gUn_def, gNil_def, gCons_def, gIf_def, gTest_def, gNot_def, gAnd_def, gOr_def, gAndV_def, gOrV_def, gNotV_def, gCB_def, asB_b, hAdd_i, hSub_i, hLt_i, hLe_i, hGt_i, hGe_i, hMul_r, hMul_l, hMod_i, hDiv_s, hBand_i, hShr_i, hPow_10_18, hPow_10_27, hPow_10_28, hPow_10_29, hPow_10_30, hEq_i, hNe_i, hLen_l, hLen_t, hMin2_i, hMax2_i, hMin3_i, hInt1_b, hInt1_i, hBits_i, hListOf_l, hListOf_t, hTupOf_l, hTupOf_t, gSeqS_def, gSet_def, gRet_def, gIfS_def, gNext_def, gTup_def, gLst_def, List.getElem?_cons_zero, List.getElem?_cons_succ, List.set_cons_zero, List.set_cons_succ, List.length_cons, List.length_nil, Nat.zero_add, Nat.reduceAdd, Nat.reduceLeDiff, Nat.reduceSub, Nat.reduceMul, if_true, if_false, Bool.false_eq_true, List.replicate_succ, List.replicate_zero, List.cons_append, List.nil_append, tgN, tgT, tgCons, tgNil, Int.reducePow, Int.reduceAdd, Int.reduceSub, Int.reduceMul, decide_true, decide_false, Bool.not_true, Bool.not_false, gChain_def, hIsa_int, hIsa_intb, hIsa_list, hIsa_tuple, gDrop_def, Nat.zero_le]
  rw [seq_nx e1]
  have e2 : gSet 4 (gOp hSub (gVar 0) (gOp hPow (gC (.int 10)) (gC (.int 18)))) [.int cell, .int n, .int B30, .list [], .none, .none, .none, .none] = .ok (.nx [.int cell, .int n, .int B30, .list [], .int (cell - 1000000000000000000), .none, .none, .none]) := by
    simp (disch := first | omega | decide) only [bnd_ok, gVar_def, gC_def, gOp_def, gUn_def, gNil_def, gCons_def, gIf_def, gTest_def, gNot_def, gAnd_def, gOr_def, gAndV_def, gOrV_def, gNotV_def, gCB_def, asB_b, hAdd_i, hSub_i, hLt_i, hLe_i, hGt_i, hGe_i, hMul_r, hMul_l, hMod_i, hDiv_s, hBand_i, hShr_i, hPow_10_18, hPow_10_27, hPow_10_28, hPow_10_29, hPow_10_30, hEq_i, hNe_i, hLen_l, hLen_t, hMin2_i, hMax2_i, hMin3_i, hInt1_b, hInt1_i, hBits_i, hListOf_l, hListOf_t, hTupOf_l, hTupOf_t, gSeqS_def, gSet_def, gRet_def, gIfS_def, gNext_def, gTup_def, gLst_def, List.getElem?_cons_zero, List.getElem?_cons_succ, List.set_cons_zero, List.set_cons_succ, List.length_cons, List.length_nil, Nat.zero_add, Nat.reduceAdd, Nat.reduceLeDiff, Nat.reduceSub, Nat.reduceMul, if_true, if_false, Bool.false_eq_true, List.replicate_succ, List.replicate_zero, List.cons_append, List.nil_append, tgN, tgT, tgCons, tgNil, Int.reducePow, Int.reduceAdd, Int.reduceSub, Int.reduceMul, decide_true, decide_false, Bool.not_true, Bool.not_false, gChain_def, hIsa_int, hIsa_intb, hIsa_list, hIsa_tuple, gDrop_def]
  rw [seq_nx e2]
  have e3 : gRng1 (gCons (gVar 1) gNil) [.int cell, .int n, .int B30, .list [], .int (cell - 1000000000000000000), .none, .none, .none] = .ok ((List.range n).map fun (k : Nat) => PyData.int (k : Int)) := by
    rw [← rangeD_nat]
    refine rng1_ok ?_ (by omega) (by omega)
    simp (disch := first | omega | decide) only [bnd_ok, gVar_def, gC_def, gOp_def, gUn_def, gNil_def, gCons_def, gIf_def, gTest_def, gNot_def, gAnd_def, gOr_def, gAndV_def, gOrV_def, gNotV_def, gCB_def, asB_b, hAdd_i, hSub_i, hLt_i, hLe_i, hGt_i, hGe_i, hMul_r, hMul_l, hMod_i, hDiv_s, hBand_i, hShr_i, hPow_10_18, hPow_10_27, hPow_10_28, hPow_10_29, hPow_10_30, hEq_i, hNe_i, hLen_l, hLen_t, hMin2_i, hMax2_i, hMin3_i, hInt1_b, hInt1_i, hBits_i, hListOf_l, hListOf_t, hTupOf_l, hTupOf_t, gSeqS_def, gSet_def, gRet_def, gIfS_def, gNext_def, gTup_def, gLst_def, List.getElem?_cons_zero, List.getElem?_cons_succ, List.set_cons_zero, List.set_cons_succ, List.length_cons, List.length_nil, Nat.zero_add, Nat.reduceAdd, Nat.reduceLeDiff, Nat.reduceSub, Nat.reduceMul, if_true, if_false, Bool.false_eq_true, List.replicate_succ, List.replicate_zero, List.cons_append, List.nil_append, tgN, tgT, tgCons, tgNil, Int.reducePow, Int.reduceAdd, Int.reduceSub, Int.reduceMul, decide_true, decide_false, Bool.not_true, Bool.not_false, gChain_def, hIsa_int, hIsa_intb, hIsa_list, hIsa_tuple, gDrop_def]
  exact (seq_nx (b := gRet (gVar 3)) (for_ok e3 hf)).trans rfl

/-! ### records -/
abbrev T3 := Int × Int × Int
def enc3 (t : T3) : Dt := .tuple [.int t.1, .int t.2.1, .int t.2.2]
structure TieOk (n : Int) (t : T3) : Prop where
  m0 : 0 ≤ t.1
  m1 : t.1 < B30
  a0 : 0 ≤ t.2.1
  ab : t.2.1 ≤ t.2.2
  bn : t.2.2 < n
structure RecOk (n : Int) (r : List T3) : Prop where
  len : r.length ≤ 60
  ties : ∀ t ∈ r, TieOk n t
  ord : r.Pairwise fun s t => s.1 < t.1
theorem ix_ok {ns : List Int} (hns : ∀ x ∈ ns, 0 ≤ x ∧ x < B30) {i : Int} (h0 : 0 ≤ i) (h1 : i < ns.length) : ∃ x, hIx (.list (ns.map .int)) (.int i) = .ok (.int x) ∧ 0 ≤ x ∧ x < B30 :=
  ⟨_, hIx_ints h0 h1, hns _ (List.getElem_mem _)⟩
theorem ix3 (a b c i : Int) (h0 : 0 ≤ i) (h1 : i < 3) : hIx (.list [.int a, .int b, .int c]) (.int i) = .ok (.int (if i = 0 then a else if i = 1 then b else c)) := by
  have : i = 0 ∨ i = 1 ∨ i = 2 := by omega
  rcases this with rfl | rfl | rfl <;> rfl
theorem map3_snoc (r : List T3) (t : T3) : r.map enc3 ++ [enc3 t] = (r ++ [t]).map enc3 := by rw [List.map_append]; rfl
def rB : Gs := (gSeqS (gAsg (gCallN 4 f_l_ends (gCons (gVar 2) (gCons (gOp hMod (gOp hIx (gVar 0) (gC (.int (3)))) (gC (.int (4)))) (gCons (gOp hIx (gVar 0) (gOp hAdd (gC (.int (4))) (gOp hMul (gC (.int (3))) (gVar 7)))) (gCons (gOp hIx (gVar 0) (gOp hAdd (gC (.int (5))) (gOp hMul (gC (.int (3))) (gVar 7)))) (gNil)))))) (tgT (tgCons (tgN 8) (tgCons (tgN 9) (tgNil))))) (gSeqS (gApp 6 (gTup (gCons (gVar 5) (gCons (gCB hMin2 (gCons (gVar 8) (gCons (gVar 9) (gNil)))) (gCons (gCB hMax2 (gCons (gVar 8) (gCons (gVar 9) (gNil)))) (gNil)))))) (gSet 5 (gOp hAdd (gOp hAdd (gVar 5) (gC (.int (1)))) (gOp hMod (gOp hIx (gVar 0) (gOp hAdd (gC (.int (6))) (gOp hMul (gC (.int (3))) (gVar 7)))) (gVar 4))))))
theorem rB_ok {ns : List Int} (hns : ∀ x ∈ ns, 0 ≤ x ∧ x < B30) (hl : 4 ≤ ns.length) {k : Nat} (hk : 3 * k + 6 < ns.length) {n : Int} (hn : 1 ≤ n) {wd m : Int} (hw : 0 < wd) (hm : 0 ≤ m) {r : List T3} (hr : r.length < 100) (mo : Dt) (c d8 d9 : Dt) :
    ∃ t m' q8 q9, rB [.list (ns.map .int), mo, .int n, c, .int wd, .int m, .list (r.map enc3), .int k, d8, d9] = .ok (.nx [.list (ns.map .int), mo, .int n, c, .int wd, .int m', .list ((r ++ [t]).map enc3), .int k, q8, q9])
      ∧ t.1 = m ∧ 0 ≤ t.2.1 ∧ t.2.1 ≤ t.2.2 ∧ t.2.2 < n ∧ m < m' ∧ m' ≤ m + wd := by
  obtain ⟨x3, e3, _⟩ := ix_ok hns (i := 3) (by omega) (by omega)
  obtain ⟨x4, e4, _⟩ := ix_ok hns (i := 4 + 3 * (k : Int)) (by omega) (by omega)
  obtain ⟨x5, e5, _⟩ := ix_ok hns (i := 5 + 3 * (k : Int)) (by omega) (by omega)
  obtain ⟨x6, e6, _⟩ := ix_ok hns (i := 6 + 3 * (k : Int)) (by omega) (by omega)
  obtain ⟨a, b, he, ha0, ha, hb0, hb⟩ := ends_ok n (x3 % 4) x4 x5 hn
  have w0 := Int.emod_nonneg x6 (show wd ≠ 0 by omega)
  have w1 := Int.emod_lt_of_pos x6 hw
  have c1 : gAsg (gCallN 4 f_l_ends (gCons (gVar 2) (gCons (gOp hMod (gOp hIx (gVar 0) (gC (.int (3)))) (gC (.int (4)))) (gCons (gOp hIx (gVar 0) (gOp hAdd (gC (.int (4))) (gOp hMul (gC (.int (3))) (gVar 7)))) (gCons (gOp hIx (gVar 0) (gOp hAdd (gC (.int (5))) (gOp hMul (gC (.int (3))) (gVar 7)))) (gNil)))))) (tgT (tgCons (tgN 8) (tgCons (tgN 9) (tgNil))))
      [.list (ns.map .int), mo, .int n, c, .int wd, .int m, .list (r.map enc3), .int k, d8, d9] = .ok (.nx [.list (ns.map .int), mo, .int n, c, .int wd, .int m, .list (r.map enc3), .int k, .int a, .int b]) := by
    refine asg_ok (callN_ok (ds := [.int n, .int (x3 % 4), .int x4, .int x5]) ?_ rfl he) ?_
    · simp (disch := omega) only [bnd_ok, gVar_def, gC_def, gOp_def, gUn_def, gNil_def, gCons_def, gIf_def, gTest_def, gNot_def, gAnd_def, gOr_def, gAndV_def, gOrV_def, gNotV_def, gCB_def, asB_b, hAdd_i, hSub_i, hLt_i, hLe_i, hGt_i, hGe_i, hMul_r, hMul_l, hMod_i, hDiv_s, hBand_i, hShr_i, hPow_10_18, hPow_10_27, hPow_10_28, hPow_10_29, hPow_10_30, hEq_i, hNe_i, hLen_l, hLen_t, hMin2_i, hMax2_i, hMin3_i, hInt1_b, hInt1_i, hBits_i, hListOf_l, hListOf_t, hTupOf_l, hTupOf_t, gSeqS_def, gSet_def, gRet_def, gIfS_def, gNext_def, gTup_def, gLst_def, List.getElem?_cons_zero, List.getElem?_cons_succ, List.set_cons_zero, List.set_cons_succ, List.length_cons, List.length_nil, Nat.zero_add, Nat.reduceAdd, Nat.reduceLeDiff, Nat.reduceSub, Nat.reduceMul, if_true, if_false, Bool.false_eq_true, List.replicate_succ, List.replicate_zero, List.cons_append, List.nil_append, tgN, tgT, tgCons, tgNil, Int.reducePow, Int.reduceAdd, Int.reduceSub, Int.reduceMul, decide_true, decide_false, Bool.not_true, Bool.not_false, gChain_def, hIsa_int, hIsa_intb, hIsa_list, hIsa_tuple, gDrop_def, e3, e4, e5]
    · simp only [bnd_ok, gVar_def, gC_def, gOp_def, gUn_def, gNil_def, gCons_def, gIf_def, gTest_def, gNot_def, gAnd_def, gOr_def, gAndV_def, gOrV_def, gNotV_def, gCB_def, asB_b, hAdd_i, hSub_i, hLt_i, hLe_i, hGt_i, hGe_i, hMul_r, hMul_l, hMod_i, hDiv_s, hBand_i, hShr_i, hPow_10_18, hPow_10_27, hPow_10_28, hPow_10_29, hPow_10_30, hEq_i, hNe_i, hLen_l, hLen_t, hMin2_i, hMax2_i, hMin3_i, hInt1_b, hInt1_i, hBits_i, hListOf_l, hListOf_t, hTupOf_l, hTupOf_t, gSeqS_def, gSet_def, gRet_def, gIfS_def, gNext_def, gTup_def, gLst_def, List.getElem?_cons_zero, List.getElem?_cons_succ, List.set_cons_zero, List.set_cons_succ, List.length_cons, List.length_nil, Nat.zero_add, Nat.reduceAdd, Nat.reduceLeDiff, Nat.reduceSub, Nat.reduceMul, if_true, if_false, Bool.false_eq_true, List.replicate_succ, List.replicate_zero, List.cons_append, List.nil_append, tgN, tgT, tgCons, tgNil, Int.reducePow, Int.reduceAdd, Int.reduceSub, Int.reduceMul, decide_true, decide_false, Bool.not_true, Bool.not_false, gChain_def, hIsa_int, hIsa_intb, hIsa_list, hIsa_tuple, gDrop_def]
  have c2 : gApp 6 (gTup (gCons (gVar 5) (gCons (gCB hMin2 (gCons (gVar 8) (gCons (gVar 9) (gNil)))) (gCons (gCB hMax2 (gCons (gVar 8) (gCons (gVar 9) (gNil)))) (gNil)))))
      [.list (ns.map .int), mo, .int n, c, .int wd, .int m, .list (r.map enc3), .int k, .int a, .int b] = .ok (.nx [.list (ns.map .int), mo, .int n, c, .int wd, .int m, .list ((r ++ [(m, (if b < a then b else a), (if b > a then b else a))]).map enc3), .int k, .int a, .int b]) := by
    refine (gApp_l (ds := r.map enc3) (d := enc3 (m, (if b < a then b else a), (if b > a then b else a))) rfl ?_ (by rw [List.length_map]; omega)).trans ?_
    · simp (disch := omega) only [bnd_ok, gVar_def, gC_def, gOp_def, gUn_def, gNil_def, gCons_def, gIf_def, gTest_def, gNot_def, gAnd_def, gOr_def, gAndV_def, gOrV_def, gNotV_def, gCB_def, asB_b, hAdd_i, hSub_i, hLt_i, hLe_i, hGt_i, hGe_i, hMul_r, hMul_l, hMod_i, hDiv_s, hBand_i, hShr_i, hPow_10_18, hPow_10_27, hPow_10_28, hPow_10_29, hPow_10_30, hEq_i, hNe_i, hLen_l, hLen_t, hMin2_i, hMax2_i, hMin3_i, hInt1_b, hInt1_i, hBits_i, hListOf_l, hListOf_t, hTupOf_l, hTupOf_t, gSeqS_def, gSet_def, gRet_def, gIfS_def, gNext_def, gTup_def, gLst_def, List.getElem?_cons_zero, List.getElem?_cons_succ, List.set_cons_zero, List.set_cons_succ, List.length_cons, List.length_nil, Nat.zero_add, Nat.reduceAdd, Nat.reduceLeDiff, Nat.reduceSub, Nat.reduceMul, if_true, if_false, Bool.false_eq_true, List.replicate_succ, List.replicate_zero, List.cons_append, List.nil_append, tgN, tgT, tgCons, tgNil, Int.reducePow, Int.reduceAdd, Int.reduceSub, Int.reduceMul, decide_true, decide_false, Bool.not_true, Bool.not_false, gChain_def, hIsa_int, hIsa_intb, hIsa_list, hIsa_tuple, gDrop_def]
      rfl
    · rw [map3_snoc]; rfl
  unfold rB
  rw [seq_nx c1, seq_nx c2]
  refine ⟨(m, (if b < a then b else a), (if b > a then b else a)), m + 1 + x6 % wd, .int a, .int b, ?_, rfl, ?_, ?_, ?_, by omega, by omega⟩
  · simp (disch := omega) only [bnd_ok, gVar_def, gC_def, gOp_def, gUn_def, gNil_def, gCons_def, gIf_def, gTest_def, gNot_def, gAnd_def, gOr_def, gAndV_def, gOrV_def, gNotV_def, gCB_def, asB_b, hAdd_i, hSub_i, hLt_i, hLe_i, hGt_i, hGe_i, hMul_r, hMul_l, hMod_i, hDiv_s, hBand_i, hShr_i, hPow_10_18, hPow_10_27, hPow_10_28, hPow_10_29, hPow_10_30, hEq_i, hNe_i, hLen_l, hLen_t, hMin2_i, hMax2_i, hMin3_i, hInt1_b, hInt1_i, hBits_i, hListOf_l, hListOf_t, hTupOf_l, hTupOf_t, gSeqS_def, gSet_def, gRet_def, gIfS_def, gNext_def, gTup_def, gLst_def, List.getElem?_cons_zero, List.getElem?_cons_succ, List.set_cons_zero, List.set_cons_succ, List.length_cons, List.length_nil, Nat.zero_add, Nat.reduceAdd, Nat.reduceLeDiff, Nat.reduceSub, Nat.reduceMul, if_true, if_false, Bool.false_eq_true, List.replicate_succ, List.replicate_zero, List.cons_append, List.nil_append, tgN, tgT, tgCons, tgNil, Int.reducePow, Int.reduceAdd, Int.reduceSub, Int.reduceMul, decide_true, decide_false, Bool.not_true, Bool.not_false, gChain_def, hIsa_int, hIsa_intb, hIsa_list, hIsa_tuple, gDrop_def, e6]
  · show 0 ≤ (if b < a then b else a)
    split <;> omega
  · show (if b < a then b else a) ≤ (if b > a then b else a)
    split <;> split <;> omega
  · show (if b > a then b else a) < n
    split <;> omega
theorem rec_snoc {n : Int} {r : List T3} {t : T3} (h : ∀ t ∈ r, TieOk n t) (o : r.Pairwise fun s t => s.1 < t.1) (ht : TieOk n t) (hlt : ∀ s ∈ r, s.1 < t.1) : (∀ s ∈ r ++ [t], TieOk n s) ∧ (r ++ [t]).Pairwise fun s t => s.1 < t.1 := by
  refine ⟨fun s hs => ?_, List.pairwise_append.mpr ⟨o, List.pairwise_singleton _ _, fun a ha b hb => ?_⟩⟩
  · rcases List.mem_append.mp hs with h' | h'
    · exact h s h'
    · rw [List.mem_singleton.mp h']; exact ht
  · rw [List.mem_singleton.mp hb]
    exact hlt a ha
theorem record_ok {ns : List Int} {most : Int} (hns : ∀ x ∈ ns, 0 ≤ x ∧ x < B30) (hl : 4 ≤ ns.length) (hl2 : ns.length ≤ 1000) (h0 : 0 ≤ most) (h1 : most ≤ 60) :
    ∃ n r, f_l_record [.list (ns.map .int), .int most] = .ok (.tuple [.int n, .list (r.map enc3)]) ∧ 1 ≤ n ∧ n ≤ 10 ∧ RecOk n r ∧ (r.length : Int) ≤ most := by
  obtain ⟨x0, e0, b0⟩ := ix_ok hns (i := 0) (by omega) (by omega)
  obtain ⟨x1, e1, b1⟩ := ix_ok hns (i := 1) (by omega) (by omega)
  obtain ⟨x2, e2, b2⟩ := ix_ok hns (i := 2) (by omega) (by omega)
  obtain ⟨x3, e3, b3⟩ := ix_ok hns (i := 3) (by omega) (by omega)
  suffices h : ∃ n r, g_l_record [.list (ns.map .int), .int most, .none, .none, .none, .none, .none, .none, .none, .none] = .ok (.rt (.tuple [.int n, .list (r.map enc3)])) ∧ 1 ≤ n ∧ n ≤ 10 ∧ RecOk n r ∧ (r.length : Int) ≤ most by
    obtain ⟨n, r, h, q⟩ := h
    exact ⟨n, r, fnN_rt h, q⟩
  unfold g_l_record
  -- n
  rw [seq_nx (ρ' := [.list (ns.map .int), .int most, .int (1 + x0 % 6), .none, .none, .none, .none, .none, .none, .none]) (by simp (disch := omega) only [bnd_ok, gVar_def, gC_def, gOp_def, gUn_def, gNil_def, gCons_def, gIf_def, gTest_def, gNot_def, gAnd_def, gOr_def, gAndV_def, gOrV_def, gNotV_def, gCB_def, asB_b, hAdd_i, hSub_i, hLt_i, hLe_i, hGt_i, hGe_i, hMul_r, hMul_l, hMod_i, hDiv_s, hBand_i, hShr_i, hPow_10_18, hPow_10_27, hPow_10_28, hPow_10_29, hPow_10_30, hEq_i, hNe_i, hLen_l, hLen_t, hMin2_i, hMax2_i, hMin3_i, hInt1_b, hInt1_i, hBits_i, hListOf_l, hListOf_t, hTupOf_l, hTupOf_t, gSeqS_def, gSet_def, gRet_def, gIfS_def, gNext_def, gTup_def, gLst_def, List.getElem?_cons_zero, List.getElem?_cons_succ, List.set_cons_zero, List.set_cons_succ, List.length_cons, List.length_nil, Nat.zero_add, Nat.reduceAdd, Nat.reduceLeDiff, Nat.reduceSub, Nat.reduceMul, if_true, if_false, Bool.false_eq_true, List.replicate_succ, List.replicate_zero, List.cons_append, List.nil_append, tgN, tgT, tgCons, tgNil, Int.reducePow, Int.reduceAdd, Int.reduceSub, Int.reduceMul, decide_true, decide_false, Bool.not_true, Bool.not_false, gChain_def, hIsa_int, hIsa_intb, hIsa_list, hIsa_tuple, gDrop_def, e0])]
  obtain ⟨n, hn, n1, n10⟩ : ∃ n, gIfS (gTest (gOp hEq (gOp hMod (gOp hDiv (gOp hIx (gVar 0) (gC (.int (0)))) (gC (.int (6)))) (gC (.int (8)))) (gC (.int (1))))) (gSet 2 (gOp hAdd (gC (.int (7))) (gOp hMod (gOp hDiv (gOp hIx (gVar 0) (gC (.int (0)))) (gC (.int (48)))) (gC (.int (4)))))) gNext
      [.list (ns.map .int), .int most, .int (1 + x0 % 6), .none, .none, .none, .none, .none, .none, .none] = .ok (.nx [.list (ns.map .int), .int most, .int n, .none, .none, .none, .none, .none, .none, .none]) ∧ 1 ≤ n ∧ n ≤ 10 := by
    by_cases c : x0 / 6 % 8 = 1
    · exact ⟨7 + x0 / 48 % 4, by simp (disch := omega) only [bnd_ok, gVar_def, gC_def, gOp_def, gUn_def, gNil_def, gCons_def, gIf_def, gTest_def, gNot_def, gAnd_def, gOr_def, gAndV_def, gOrV_def, gNotV_def, gCB_def, asB_b, hAdd_i, hSub_i, hLt_i, hLe_i, hGt_i, hGe_i, hMul_r, hMul_l, hMod_i, hDiv_s, hBand_i, hShr_i, hPow_10_18, hPow_10_27, hPow_10_28, hPow_10_29, hPow_10_30, hEq_i, hNe_i, hLen_l, hLen_t, hMin2_i, hMax2_i, hMin3_i, hInt1_b, hInt1_i, hBits_i, hListOf_l, hListOf_t, hTupOf_l, hTupOf_t, gSeqS_def, gSet_def, gRet_def, gIfS_def, gNext_def, gTup_def, gLst_def, List.getElem?_cons_zero, List.getElem?_cons_succ, List.set_cons_zero, List.set_cons_succ, List.length_cons, List.length_nil, Nat.zero_add, Nat.reduceAdd, Nat.reduceLeDiff, Nat.reduceSub, Nat.reduceMul, if_true, if_false, Bool.false_eq_true, List.replicate_succ, List.replicate_zero, List.cons_append, List.nil_append, tgN, tgT, tgCons, tgNil, Int.reducePow, Int.reduceAdd, Int.reduceSub, Int.reduceMul, decide_true, decide_false, Bool.not_true, Bool.not_false, gChain_def, hIsa_int, hIsa_intb, hIsa_list, hIsa_tuple, gDrop_def, e0, c, beq_self_eq_true], by omega, by omega⟩
    · have c' : (x0 / 6 % 8 == 1) = false := beq_eq_false_iff_ne.mpr c
      exact ⟨1 + x0 % 6, by simp (disch := omega) only [bnd_ok, gVar_def, gC_def, gOp_def, gUn_def, gNil_def, gCons_def, gIf_def, gTest_def, gNot_def, gAnd_def, gOr_def, gAndV_def, gOrV_def, gNotV_def, gCB_def, asB_b, hAdd_i, hSub_i, hLt_i, hLe_i, hGt_i, hGe_i, hMul_r, hMul_l, hMod_i, hDiv_s, hBand_i, hShr_i, hPow_10_18, hPow_10_27, hPow_10_28, hPow_10_29, hPow_10_30, hEq_i, hNe_i, hLen_l, hLen_t, hMin2_i, hMax2_i, hMin3_i, hInt1_b, hInt1_i, hBits_i, hListOf_l, hListOf_t, hTupOf_l, hTupOf_t, gSeqS_def, gSet_def, gRet_def, gIfS_def, gNext_def, gTup_def, gLst_def, List.getElem?_cons_zero, List.getElem?_cons_succ, List.set_cons_zero, List.set_cons_succ, List.length_cons, List.length_nil, Nat.zero_add, Nat.reduceAdd, Nat.reduceLeDiff, Nat.reduceSub, Nat.reduceMul, if_true, if_false, Bool.false_eq_true, List.replicate_succ, List.replicate_zero, List.cons_append, List.nil_append, tgN, tgT, tgCons, tgNil, Int.reducePow, Int.reduceAdd, Int.reduceSub, Int.reduceMul, decide_true, decide_false, Bool.not_true, Bool.not_false, gChain_def, hIsa_int, hIsa_intb, hIsa_list, hIsa_tuple, gDrop_def, e0, c'], by omega, by omega⟩
  rw [seq_nx hn]
  -- many
  rw [seq_nx (ρ' := [.list (ns.map .int), .int most, .int n, .int (x1 % 13), .none, .none, .none, .none, .none, .none]) (by simp (disch := omega) only [bnd_ok, gVar_def, gC_def, gOp_def, gUn_def, gNil_def, gCons_def, gIf_def, gTest_def, gNot_def, gAnd_def, gOr_def, gAndV_def, gOrV_def, gNotV_def, gCB_def, asB_b, hAdd_i, hSub_i, hLt_i, hLe_i, hGt_i, hGe_i, hMul_r, hMul_l, hMod_i, hDiv_s, hBand_i, hShr_i, hPow_10_18, hPow_10_27, hPow_10_28, hPow_10_29, hPow_10_30, hEq_i, hNe_i, hLen_l, hLen_t, hMin2_i, hMax2_i, hMin3_i, hInt1_b, hInt1_i, hBits_i, hListOf_l, hListOf_t, hTupOf_l, hTupOf_t, gSeqS_def, gSet_def, gRet_def, gIfS_def, gNext_def, gTup_def, gLst_def, List.getElem?_cons_zero, List.getElem?_cons_succ, List.set_cons_zero, List.set_cons_succ, List.length_cons, List.length_nil, Nat.zero_add, Nat.reduceAdd, Nat.reduceLeDiff, Nat.reduceSub, Nat.reduceMul, if_true, if_false, Bool.false_eq_true, List.replicate_succ, List.replicate_zero, List.cons_append, List.nil_append, tgN, tgT, tgCons, tgNil, Int.reducePow, Int.reduceAdd, Int.reduceSub, Int.reduceMul, decide_true, decide_false, Bool.not_true, Bool.not_false, gChain_def, hIsa_int, hIsa_intb, hIsa_list, hIsa_tuple, gDrop_def, e1])]
  obtain ⟨many, hm, m0, m60⟩ : ∃ n', gIfS (gTest (gOp hEq (gOp hMod (gOp hDiv (gOp hIx (gVar 0) (gC (.int (1)))) (gC (.int (13)))) (gC (.int (8)))) (gC (.int (1))))) (gSet 3 (gOp hAdd (gC (.int (13))) (gOp hMod (gOp hDiv (gOp hIx (gVar 0) (gC (.int (1)))) (gC (.int (104)))) (gC (.int (48)))))) gNext
      [.list (ns.map .int), .int most, .int n, .int (x1 % 13), .none, .none, .none, .none, .none, .none] = .ok (.nx [.list (ns.map .int), .int most, .int n, .int n', .none, .none, .none, .none, .none, .none]) ∧ 0 ≤ n' ∧ n' ≤ 60 := by
    by_cases c : x1 / 13 % 8 = 1
    · exact ⟨13 + x1 / 104 % 48, by simp (disch := omega) only [bnd_ok, gVar_def, gC_def, gOp_def, gUn_def, gNil_def, gCons_def, gIf_def, gTest_def, gNot_def, gAnd_def, gOr_def, gAndV_def, gOrV_def, gNotV_def, gCB_def, asB_b, hAdd_i, hSub_i, hLt_i, hLe_i, hGt_i, hGe_i, hMul_r, hMul_l, hMod_i, hDiv_s, hBand_i, hShr_i, hPow_10_18, hPow_10_27, hPow_10_28, hPow_10_29, hPow_10_30, hEq_i, hNe_i, hLen_l, hLen_t, hMin2_i, hMax2_i, hMin3_i, hInt1_b, hInt1_i, hBits_i, hListOf_l, hListOf_t, hTupOf_l, hTupOf_t, gSeqS_def, gSet_def, gRet_def, gIfS_def, gNext_def, gTup_def, gLst_def, List.getElem?_cons_zero, List.getElem?_cons_succ, List.set_cons_zero, List.set_cons_succ, List.length_cons, List.length_nil, Nat.zero_add, Nat.reduceAdd, Nat.reduceLeDiff, Nat.reduceSub, Nat.reduceMul, if_true, if_false, Bool.false_eq_true, List.replicate_succ, List.replicate_zero, List.cons_append, List.nil_append, tgN, tgT, tgCons, tgNil, Int.reducePow, Int.reduceAdd, Int.reduceSub, Int.reduceMul, decide_true, decide_false, Bool.not_true, Bool.not_false, gChain_def, hIsa_int, hIsa_intb, hIsa_list, hIsa_tuple, gDrop_def, e1, c, beq_self_eq_true], by omega, by omega⟩
    · have c' : (x1 / 13 % 8 == 1) = false := beq_eq_false_iff_ne.mpr c
      exact ⟨x1 % 13, by simp (disch := omega) only [bnd_ok, gVar_def, gC_def, gOp_def, gUn_def, gNil_def, gCons_def, gIf_def, gTest_def, gNot_def, gAnd_def, gOr_def, gAndV_def, gOrV_def, gNotV_def, gCB_def, asB_b, hAdd_i, hSub_i, hLt_i, hLe_i, hGt_i, hGe_i, hMul_r, hMul_l, hMod_i, hDiv_s, hBand_i, hShr_i, hPow_10_18, hPow_10_27, hPow_10_28, hPow_10_29, hPow_10_30, hEq_i, hNe_i, hLen_l, hLen_t, hMin2_i, hMax2_i, hMin3_i, hInt1_b, hInt1_i, hBits_i, hListOf_l, hListOf_t, hTupOf_l, hTupOf_t, gSeqS_def, gSet_def, gRet_def, gIfS_def, gNext_def, gTup_def, gLst_def, List.getElem?_cons_zero, List.getElem?_cons_succ, List.set_cons_zero, List.set_cons_succ, List.length_cons, List.length_nil, Nat.zero_add, Nat.reduceAdd, Nat.reduceLeDiff, Nat.reduceSub, Nat.reduceMul, if_true, if_false, Bool.false_eq_true, List.replicate_succ, List.replicate_zero, List.cons_append, List.nil_append, tgN, tgT, tgCons, tgNil, Int.reducePow, Int.reduceAdd, Int.reduceSub, Int.reduceMul, decide_true, decide_false, Bool.not_true, Bool.not_false, gChain_def, hIsa_int, hIsa_intb, hIsa_list, hIsa_tuple, gDrop_def, e1, c'], by omega, by omega⟩
  rw [seq_nx hm]
  -- wide, moment
  obtain ⟨wd, hw, w0, w1⟩ : ∃ wd, gSet 4 (gOp hIx (gLst (gCons (gC (.int (1))) (gCons (gC (.int (4))) (gCons (gOp hPow (gC (.int (10))) (gC (.int (28)))) (gNil))))) (gOp hMod (gOp hIx (gVar 0) (gC (.int (2)))) (gC (.int (3)))))
      [.list (ns.map .int), .int most, .int n, .int many, .none, .none, .none, .none, .none, .none] = .ok (.nx [.list (ns.map .int), .int most, .int n, .int many, .int wd, .none, .none, .none, .none, .none]) ∧ 0 < wd ∧ wd ≤ 10000000000000000000000000000 := by
    refine ⟨if x2 % 3 = 0 then 1 else if x2 % 3 = 1 then 4 else 10000000000000000000000000000, by simp (disch := omega) only [bnd_ok, gVar_def, gC_def, gOp_def, gUn_def, gNil_def, gCons_def, gIf_def, gTest_def, gNot_def, gAnd_def, gOr_def, gAndV_def, gOrV_def, gNotV_def, gCB_def, asB_b, hAdd_i, hSub_i, hLt_i, hLe_i, hGt_i, hGe_i, hMul_r, hMul_l, hMod_i, hDiv_s, hBand_i, hShr_i, hPow_10_18, hPow_10_27, hPow_10_28, hPow_10_29, hPow_10_30, hEq_i, hNe_i, hLen_l, hLen_t, hMin2_i, hMax2_i, hMin3_i, hInt1_b, hInt1_i, hBits_i, hListOf_l, hListOf_t, hTupOf_l, hTupOf_t, gSeqS_def, gSet_def, gRet_def, gIfS_def, gNext_def, gTup_def, gLst_def, List.getElem?_cons_zero, List.getElem?_cons_succ, List.set_cons_zero, List.set_cons_succ, List.length_cons, List.length_nil, Nat.zero_add, Nat.reduceAdd, Nat.reduceLeDiff, Nat.reduceSub, Nat.reduceMul, if_true, if_false, Bool.false_eq_true, List.replicate_succ, List.replicate_zero, List.cons_append, List.nil_append, tgN, tgT, tgCons, tgNil, Int.reducePow, Int.reduceAdd, Int.reduceSub, Int.reduceMul, decide_true, decide_false, Bool.not_true, Bool.not_false, gChain_def, hIsa_int, hIsa_intb, hIsa_list, hIsa_tuple, gDrop_def, e2, ix3], ?_, ?_⟩
    · split <;> (try split) <;> omega
    · split <;> (try split) <;> omega
  rw [seq_nx hw]
  obtain ⟨mo, hmo, mo0, mo1⟩ : ∃ mo, gSet 5 (gOp hIx (gLst (gCons (gC (.int (0))) (gCons (gOp hMod (gOp hDiv (gOp hIx (gVar 0) (gC (.int (2)))) (gC (.int (12)))) (gC (.int (100)))) (gCons (gOp hMod (gOp hIx (gVar 0) (gC (.int (3)))) (gOp hPow (gC (.int (10))) (gC (.int (29))))) (gNil))))) (gOp hMod (gOp hDiv (gOp hIx (gVar 0) (gC (.int (2)))) (gC (.int (3)))) (gC (.int (3)))))
      [.list (ns.map .int), .int most, .int n, .int many, .int wd, .none, .none, .none, .none, .none] = .ok (.nx [.list (ns.map .int), .int most, .int n, .int many, .int wd, .int mo, .none, .none, .none, .none]) ∧ 0 ≤ mo ∧ mo ≤ 100000000000000000000000000000 := by
    refine ⟨if x2 / 3 % 3 = 0 then 0 else if x2 / 3 % 3 = 1 then x2 / 12 % 100 else x3 % 100000000000000000000000000000, by simp (disch := omega) only [bnd_ok, gVar_def, gC_def, gOp_def, gUn_def, gNil_def, gCons_def, gIf_def, gTest_def, gNot_def, gAnd_def, gOr_def, gAndV_def, gOrV_def, gNotV_def, gCB_def, asB_b, hAdd_i, hSub_i, hLt_i, hLe_i, hGt_i, hGe_i, hMul_r, hMul_l, hMod_i, hDiv_s, hBand_i, hShr_i, hPow_10_18, hPow_10_27, hPow_10_28, hPow_10_29, hPow_10_30, hEq_i, hNe_i, hLen_l, hLen_t, hMin2_i, hMax2_i, hMin3_i, hInt1_b, hInt1_i, hBits_i, hListOf_l, hListOf_t, hTupOf_l, hTupOf_t, gSeqS_def, gSet_def, gRet_def, gIfS_def, gNext_def, gTup_def, gLst_def, List.getElem?_cons_zero, List.getElem?_cons_succ, List.set_cons_zero, List.set_cons_succ, List.length_cons, List.length_nil, Nat.zero_add, Nat.reduceAdd, Nat.reduceLeDiff, Nat.reduceSub, Nat.reduceMul, if_true, if_false, Bool.false_eq_true, List.replicate_succ, List.replicate_zero, List.cons_append, List.nil_append, tgN, tgT, tgCons, tgNil, Int.reducePow, Int.reduceAdd, Int.reduceSub, Int.reduceMul, decide_true, decide_false, Bool.not_true, Bool.not_false, gChain_def, hIsa_int, hIsa_intb, hIsa_list, hIsa_tuple, gDrop_def, e2, e3, ix3], ?_, ?_⟩
    · split <;> (try split) <;> omega
    · split <;> (try split) <;> omega
  rw [seq_nx hmo]
  rw [seq_nx (ρ' := [.list (ns.map .int), .int most, .int n, .int many, .int wd, .int mo, .list [], .none, .none, .none]) (by simp (disch := omega) only [bnd_ok, gVar_def, gC_def, gOp_def, gUn_def, gNil_def, gCons_def, gIf_def, gTest_def, gNot_def, gAnd_def, gOr_def, gAndV_def, gOrV_def, gNotV_def, gCB_def, asB_b, hAdd_i, hSub_i, hLt_i, hLe_i, hGt_i, hGe_i, hMul_r, hMul_l, hMod_i, hDiv_s, hBand_i, hShr_i, hPow_10_18, hPow_10_27, hPow_10_28, hPow_10_29, hPow_10_30, hEq_i, hNe_i, hLen_l, hLen_t, hMin2_i, hMax2_i, hMin3_i, hInt1_b, hInt1_i, hBits_i, hListOf_l, hListOf_t, hTupOf_l, hTupOf_t, gSeqS_def, gSet_def, gRet_def, gIfS_def, gNext_def, gTup_def, gLst_def, List.getElem?_cons_zero, List.getElem?_cons_succ, List.set_cons_zero, List.set_cons_succ, List.length_cons, List.length_nil, Nat.zero_add, Nat.reduceAdd, Nat.reduceLeDiff, Nat.reduceSub, Nat.reduceMul, if_true, if_false, Bool.false_eq_true, List.replicate_succ, List.replicate_zero, List.cons_append, List.nil_append, tgN, tgT, tgCons, tgNil, Int.reducePow, Int.reduceAdd, Int.reduceSub, Int.reduceMul, decide_true, decide_false, Bool.not_true, Bool.not_false, gChain_def, hIsa_int, hIsa_intb, hIsa_list, hIsa_tuple, gDrop_def, Nat.zero_le])]
  -- the loop
  obtain ⟨cnt, hc, c0, c1, c2⟩ : ∃ cnt : Nat, gRng1 (gCons (gCB hMin3 (gCons (gVar 3) (gCons (gVar 1) (gCons (gOp hDiv (gOp hSub (gCB hLen (gCons (gVar 0) (gNil))) (gC (.int (4)))) (gC (.int (3)))) (gNil))))) (gNil))
      [.list (ns.map .int), .int most, .int n, .int many, .int wd, .int mo, .list [], .none, .none, .none] = .ok ((List.range cnt).map fun (k : Nat) => PyData.int (k : Int)) ∧ (cnt : Int) ≤ most ∧ cnt ≤ 60 ∧ 3 * cnt + 4 ≤ ns.length := by
    generalize hq : (if most < many then (if ((ns.length : Int) - 4) / 3 < most then ((ns.length : Int) - 4) / 3 else most) else (if ((ns.length : Int) - 4) / 3 < many then ((ns.length : Int) - 4) / 3 else many)) = q
    have q0 : 0 ≤ q ∧ q ≤ most ∧ q ≤ 60 ∧ 3 * q + 4 ≤ ns.length := by
      split at hq <;> split at hq <;> omega
    refine ⟨q.toNat, ?_, by omega, by omega, by omega⟩
    rw [← rangeD_nat, show ((q.toNat : Nat) : Int) = q by omega]
    refine rng1_ok ?_ (by omega) (by omega)
    simp (disch := omega) only [bnd_ok, gVar_def, gC_def, gOp_def, gUn_def, gNil_def, gCons_def, gIf_def, gTest_def, gNot_def, gAnd_def, gOr_def, gAndV_def, gOrV_def, gNotV_def, gCB_def, asB_b, hAdd_i, hSub_i, hLt_i, hLe_i, hGt_i, hGe_i, hMul_r, hMul_l, hMod_i, hDiv_s, hBand_i, hShr_i, hPow_10_18, hPow_10_27, hPow_10_28, hPow_10_29, hPow_10_30, hEq_i, hNe_i, hLen_l, hLen_t, hMin2_i, hMax2_i, hMin3_i, hInt1_b, hInt1_i, hBits_i, hListOf_l, hListOf_t, hTupOf_l, hTupOf_t, gSeqS_def, gSet_def, gRet_def, gIfS_def, gNext_def, gTup_def, gLst_def, List.getElem?_cons_zero, List.getElem?_cons_succ, List.set_cons_zero, List.set_cons_succ, List.length_cons, List.length_nil, Nat.zero_add, Nat.reduceAdd, Nat.reduceLeDiff, Nat.reduceSub, Nat.reduceMul, if_true, if_false, Bool.false_eq_true, List.replicate_succ, List.replicate_zero, List.cons_append, List.nil_append, tgN, tgT, tgCons, tgNil, Int.reducePow, Int.reduceAdd, Int.reduceSub, Int.reduceMul, decide_true, decide_false, Bool.not_true, Bool.not_false, gChain_def, hIsa_int, hIsa_intb, hIsa_list, hIsa_tuple, gDrop_def, List.length_map, hq]
  obtain ⟨ρ', hf, r, m', d7, d8, d9, rfl, hl', hm', hm2, ht, ho, hlt⟩ := forE_ix (fun (k : Nat) => PyData.int (k : Int)) (h := tgN 7) (b := rB) (List.range cnt)
    (fun i ρ => ∃ (r : List T3) (m : Int) (d7 d8 d9 : Dt), ρ = [.list (ns.map .int), .int most, .int n, .int many, .int wd, .int m, .list (r.map enc3), d7, d8, d9] ∧ r.length = i ∧ 0 ≤ m ∧ m ≤ 100000000000000000000000000000 + i * 10000000000000000000000000000 ∧ (∀ t ∈ r, TieOk n t) ∧ (r.Pairwise fun s t => s.1 < t.1) ∧ ∀ t ∈ r, t.1 < m)
    (ρ := [.list (ns.map .int), .int most, .int n, .int many, .int wd, .int mo, .list [], .none, .none, .none]) ⟨[], mo, _, _, _, rfl, rfl, mo0, by omega, by simp, .nil, by simp⟩ (by
      rintro i ρ hi ⟨r, m, d7, d8, d9, rfl, hl', hm', hm2, ht, ho, hlt⟩
      rw [List.getElem_range]
      rw [List.length_range] at hi
      obtain ⟨t, m2, e8, e9, hB, t1, t2, t3, t4, t5, t6⟩ := rB_ok hns hl (k := i) (by omega) n1 w0 hm' (r := r) (by omega) (.int most) (.int many) d8 d9
      have tok : TieOk n t := ⟨by omega, by unfold B30; omega, t2, t3, t4⟩
      obtain ⟨s1, s2⟩ := rec_snoc ht ho tok (fun s hs => by rw [t1]; exact hlt s hs)
      refine ⟨_, _, rfl, .inl hB, r ++ [t], m2, _, _, _, rfl, by rw [List.length_append, hl']; rfl, by omega, by omega, s1, s2, fun s hs => ?_⟩
      rcases List.mem_append.mp hs with h | h
      · have := hlt s h; omega
      · rw [List.mem_singleton.mp h]; omega)
  rw [List.length_range] at hl'
  refine ⟨n, r, (seq_nx (b := gRet (gTup (gCons (gVar 2) (gCons (gVar 6) gNil)))) (for_ok hc hf)).trans ?_, n1, n10, ⟨by omega, ht, ho⟩, by omega⟩
  simp only [bnd_ok, gVar_def, gC_def, gOp_def, gUn_def, gNil_def, gCons_def, gIf_def, gTest_def, gNot_def, gAnd_def, gOr_def, gAndV_def, gOrV_def, gNotV_def, gCB_def, asB_b, hAdd_i, hSub_i, hLt_i, hLe_i, hGt_i, hGe_i, hMul_r, hMul_l, hMod_i, hDiv_s, hBand_i, hShr_i, hPow_10_18, hPow_10_27, hPow_10_28, hPow_10_29, hPow_10_30, hEq_i, hNe_i, hLen_l, hLen_t, hMin2_i, hMax2_i, hMin3_i, hInt1_b, hInt1_i, hBits_i, hListOf_l, hListOf_t, hTupOf_l, hTupOf_t, gSeqS_def, gSet_def, gRet_def, gIfS_def, gNext_def, gTup_def, gLst_def, List.getElem?_cons_zero, List.getElem?_cons_succ, List.set_cons_zero, List.set_cons_succ, List.length_cons, List.length_nil, Nat.zero_add, Nat.reduceAdd, Nat.reduceLeDiff, Nat.reduceSub, Nat.reduceMul, if_true, if_false, Bool.false_eq_true, List.replicate_succ, List.replicate_zero, List.cons_append, List.nil_append, tgN, tgT, tgCons, tgNil, Int.reducePow, Int.reduceAdd, Int.reduceSub, Int.reduceMul, decide_true, decide_false, Bool.not_true, Bool.not_false, gChain_def, hIsa_int, hIsa_intb, hIsa_list, hIsa_tuple, gDrop_def]
end FamA
end T_FamAP

section T_LeP
set_option linter.all false
set_option maxRecDepth 100000
/-! LeP: a closure that raises says all that the one without refusals says. -/
namespace Sim
open PySem
def OLe {α : Type} (a b : O α) : Prop := ∀ r, a = .ok r → b = .ok r
def Gle {α : Type} (a b : List Dt → O α) : Prop := ∀ ρ, OLe (a ρ) (b ρ)
theorem OLe.refl {α : Type} (a : O α) : OLe a a := fun _ h => h
theorem gle_refl {α : Type} {a : List Dt → O α} : Gle a a := fun _ _ h => h
theorem ole_bnd {α β : Type} {a a' : O α} {f f' : α → O β} (h : OLe a a') (k : ∀ x, OLe (f x) (f' x)) : OLe (bnd a f) (bnd a' f') := fun r e => by
  cases ea : a with
  | bad => rw [ea] at e; cases e
  | ex z => rw [ea] at e; cases e
  | ok x =>
    rw [ea, bnd_ok] at e
    rw [h x ea, bnd_ok]
    exact k x r e
theorem gle_bad {b : Gs} : Gle gBad b := fun _ _ h => nomatch h
theorem gle_seq {a a' b b' : Gs} (h : Gle a a') (k : Gle b b') : Gle (gSeqS a b) (gSeqS a' b') := fun ρ r e => by
  unfold gSeqS at e ⊢
  cases ea : a ρ with
  | bad => rw [ea] at e; cases e
  | ex z => rw [ea] at e; cases e
  | ok fl =>
    rw [ea] at e
    rw [h ρ fl ea]
    cases fl with
    | nx ρ' => exact k ρ' r e
    | rt d => exact e
    | bk ρ' => exact e
    | ct ρ' => exact e
theorem gle_if {t t' : List Dt → O Bool} {a a' b b' : Gs} (ht : Gle t t') (h : Gle a a') (k : Gle b b') : Gle (gIfS t a b) (gIfS t' a' b') := fun ρ => ole_bnd (ht ρ) fun c => by
  cases c with
  | true => exact h ρ
  | false => exact k ρ
theorem gle_set {i : Nat} {a a' : Gd} (h : Gle a a') : Gle (gSet i a) (gSet i a') := fun ρ => ole_bnd (h ρ) fun _ => OLe.refl _
theorem gle_ret {a a' : Gd} (h : Gle a a') : Gle (gRet a) (gRet a') := fun ρ => ole_bnd (h ρ) fun _ => OLe.refl _
theorem gle_drop {a a' : Gd} (h : Gle a a') : Gle (gDrop a) (gDrop a') := fun ρ => ole_bnd (h ρ) fun _ => OLe.refl _
theorem gle_asg {a a' : Gd} {t : Dt → List Dt → O (List Dt)} (h : Gle a a') : Gle (gAsg a t) (gAsg a' t) := fun ρ => ole_bnd (h ρ) fun _ => OLe.refl _
theorem gle_cons {a a' : Gd} {b b' : List Dt → O (List Dt)} (h : Gle a a') (k : Gle b b') : Gle (gCons a b) (gCons a' b') := fun ρ => ole_bnd (h ρ) fun _ => ole_bnd (k ρ) fun _ => OLe.refl _
theorem gle_op {f : Dt → Dt → O Dt} {a a' b b' : Gd} (h : Gle a a') (k : Gle b b') : Gle (gOp f a b) (gOp f a' b') := fun ρ => ole_bnd (h ρ) fun _ => ole_bnd (k ρ) fun _ => OLe.refl _
theorem gle_un {f : Dt → O Dt} {a a' : Gd} (h : Gle a a') : Gle (gUn f a) (gUn f a') := fun ρ => ole_bnd (h ρ) fun _ => OLe.refl _
theorem gle_test {a a' : Gd} (h : Gle a a') : Gle (gTest a) (gTest a') := fun ρ => ole_bnd (h ρ) fun _ => OLe.refl _
theorem gle_cb {f : List Dt → O Dt} {a a' : List Dt → O (List Dt)} (h : Gle a a') : Gle (gCB f a) (gCB f a') := fun ρ => ole_bnd (h ρ) fun _ => OLe.refl _
theorem gle_tup {a a' : List Dt → O (List Dt)} (h : Gle a a') : Gle (gTup a) (gTup a') := fun ρ => ole_bnd (h ρ) fun _ => OLe.refl _
theorem gle_callX {n : Nat} {g g' : List Dt → O Dt} {a a' : List Dt → O (List Dt)} (h : ∀ ds, OLe (g ds) (g' ds)) (k : Gle a a') : Gle (gCallN n g a) (gCallX n g' a') := fun ρ => ole_bnd (k ρ) fun ds => by
  by_cases hn : ds.length = n
  · rw [if_pos hn, if_pos hn]
    intro r e
    cases eg : g ds with
    | bad => rw [eg] at e; cases e
    | ex z => rw [eg] at e; cases e
    | ok d => rw [eg] at e; exact (h ds d eg).trans e
  · rw [if_neg hn, if_neg hn]
    exact OLe.refl _
theorem gle_callN {n : Nat} {g g' : List Dt → O Dt} {a a' : List Dt → O (List Dt)} (h : ∀ ds, OLe (g ds) (g' ds)) (k : Gle a a') : Gle (gCallN n g a) (gCallN n g' a') := fun ρ => ole_bnd (k ρ) fun ds => by
  by_cases hn : ds.length = n
  · rw [if_pos hn, if_pos hn]
    intro r e
    cases eg : g ds with
    | bad => rw [eg] at e; cases e
    | ex z => rw [eg] at e; cases e
    | ok d => rw [eg] at e; rw [h ds d eg]; exact e
  · rw [if_neg hn, if_neg hn]
    exact OLe.refl _
theorem ole_forE {h : Dt → List Dt → O (List Dt)} {b b' : Gs} (k : Gle b b') : ∀ (ds : List Dt) (ρ : List Dt), OLe (forE h b ds ρ) (forE h b' ds ρ)
  | [], ρ => OLe.refl _
  | d :: ds, ρ => by
    unfold forE
    cases e : h d ρ with
    | bad => exact OLe.refl _
    | ex z => exact OLe.refl _
    | ok ρ1 =>
      refine ole_bnd (k ρ1) fun fl => ?_
      cases fl with
      | nx ρ' => exact ole_forE k ds ρ'
      | ct ρ' => exact ole_forE k ds ρ'
      | bk ρ' => exact OLe.refl _
      | rt d => exact OLe.refl _
theorem gle_for {gi gi' : List Dt → O (List Dt)} {h : Dt → List Dt → O (List Dt)} {b b' : Gs} (hi : Gle gi gi') (k : Gle b b') : Gle (gFor gi h b) (gFor gi' h b') := fun ρ => ole_bnd (hi ρ) fun ds => ole_forE k ds ρ
theorem ole_N {m : Nat} {g g' : Gs} (h : Gle g g') (ds : List Dt) : OLe (fnN m g ds) (fnNX m g' ds) := fun r e => by
  unfold fnN at e
  unfold fnNX
  cases eg : g (ds ++ List.replicate (m - ds.length) .none) with
  | bad => rw [eg] at e; cases e
  | ex z => rw [eg] at e; cases e
  | ok fl =>
    rw [eg] at e
    rw [h _ fl eg]
    cases fl with
    | nx ρ' => exact e
    | rt d => exact e
    | bk ρ' => cases e
    | ct ρ' => cases e
theorem ole_L {m : Nat} {g g' : Gs} (h : Gle g g') (ds : List Dt) : OLe (fnL m g ds) (fnLX m g' ds) := fun r e => by
  unfold fnL at e
  unfold fnLX
  cases eg : g (ds ++ List.replicate (m - ds.length) .none) with
  | bad => rw [eg] at e; cases e
  | ex z => rw [eg] at e; cases e
  | ok fl =>
    rw [eg] at e
    rw [h _ fl eg]
    cases fl with
    | nx ρ' => cases e
    | rt d => exact e
    | bk ρ' => cases e
    | ct ρ' => cases e
/-! ### refusals, step by step -/
theorem callX_ok {n : Nat} {g : List Dt → O Dt} {gA : List Dt → O (List Dt)} {ρ ds : List Dt} {d : Dt} (h1 : gA ρ = .ok ds) (h2 : ds.length = n) (h3 : g ds = .ok d) : gCallX n g gA ρ = .ok d := by
  unfold gCallX
  rw [h1, bnd_ok, if_pos h2, h3]
theorem callX_ex {n : Nat} {g : List Dt → O Dt} {gA : List Dt → O (List Dt)} {ρ ds : List Dt} {e : Exn} (h1 : gA ρ = .ok ds) (h2 : ds.length = n) (h3 : g ds = .ex e) : gCallX n g gA ρ = .ex e := by
  unfold gCallX
  rw [h1, bnd_ok, if_pos h2, h3]
theorem drop_ex {g : Gd} {ρ : List Dt} {e : Exn} (h : g ρ = .ex e) : gDrop g ρ = .ex e := by unfold gDrop; rw [h]; rfl
theorem set_ex {i : Nat} {g : Gd} {ρ : List Dt} {e : Exn} (h : g ρ = .ex e) : gSet i g ρ = .ex e := by unfold gSet; rw [h]; rfl
theorem drop_ok {g : Gd} {ρ : List Dt} {d : Dt} (h : g ρ = .ok d) : gDrop g ρ = .ok (.nx ρ) := by unfold gDrop; rw [h]; rfl
theorem ret_ex {g : Gd} {ρ : List Dt} {e : Exn} (h : g ρ = .ex e) : gRet g ρ = .ex e := by unfold gRet; rw [h]; rfl
theorem seq_ex {a b : Gs} {ρ : List Dt} {e : Exn} (h : a ρ = .ex e) : gSeqS a b ρ = .ex e := by unfold gSeqS; rw [h]
theorem fnNX_ex {m : Nat} {g : Gs} {ds : List Dt} {e : Exn} (h : g (ds ++ List.replicate (m - ds.length) .none) = .ex e) : fnNX m g ds = .ex e := by unfold fnNX; rw [h]
theorem fnLX_ex {m : Nat} {g : Gs} {ds : List Dt} {e : Exn} (h : g (ds ++ List.replicate (m - ds.length) .none) = .ex e) : fnLX m g ds = .ex e := by unfold fnLX; rw [h]
theorem fnNX_rt {m : Nat} {g : Gs} {ds : List Dt} {d : Dt} (h : g (ds ++ List.replicate (m - ds.length) .none) = .ok (.rt d)) : fnNX m g ds = .ok d := by unfold fnNX; rw [h]
theorem fnNX_nx {m : Nat} {g : Gs} {ds ρ : List Dt} (h : g (ds ++ List.replicate (m - ds.length) .none) = .ok (.nx ρ)) : fnNX m g ds = .ok .none := by unfold fnNX; rw [h]
theorem fnLX_rt {m : Nat} {g : Gs} {ds : List Dt} {d : Dt} (h : g (ds ++ List.replicate (m - ds.length) .none) = .ok (.rt d)) : fnLX m g ds = .ok d := by unfold fnLX; rw [h]
theorem try_ok {gb gh : Gs} {yes no : List Str} {i : Nat} {ρ : List Dt} {a : Fl} (h : gb ρ = .ok a) : gTry gb yes no i gh ρ = .ok a := by unfold gTry; rw [h]
theorem try_ex {gb gh : Gs} {yes no : List Str} {i : Nat} {ρ : List Dt} {c : Str} {m : Option Int} {a : Fl} (h : gb ρ = .ex ⟨c, m⟩) (hc : yes.contains c = true) (k : gh (ρ.set i (exnD c m)) = .ok a) : gTry gb yes no i gh ρ = .ok a := by
  unfold gTry
  rw [h]
  show (if yes.contains c then noX (gh (ρ.set i (exnD c m))) else _) = _
  rw [if_pos hc, k]
  rfl
theorem hIx_ds {ds : List Dt} {i : Nat} (h : i < ds.length) : hIx (.list ds) (.int (i : Nat)) = .ok ds[i] := by
  have q := hIx_l (atI_map id (xs := ds) (i := (i : Int)) (by omega) (by omega))
  rw [List.map_id] at q
  exact q
end Sim
end T_LeP

section T_EqP
set_option linter.all false
set_option maxRecDepth 100000
/-! EqP: a shaped datum is like itself; lists of lists of ints are shaped. -/
namespace Sim
open PySem
mutual
theorem eqv_self : ∀ d : PyData, PyData.canLay0 d = true → PyData.eqv d d = true
  | .none, _ => by unfold PyData.eqv; rfl
  | .bool b, _ => by unfold PyData.eqv; simp
  | .int i, _ => by unfold PyData.eqv; simp
  | .str x, _ => by unfold PyData.eqv; simp
  | .list xs, h => by
    unfold PyData.eqv
    unfold PyData.canLay0 at h
    exact eqvAll_self xs h
  | .tuple xs, h => by
    unfold PyData.eqv
    unfold PyData.canLay0 at h
    exact eqvAll_self xs h
  | .dict es, h => by unfold PyData.canLay0 at h; cases h
theorem eqvAll_self : ∀ ds : List PyData, PyData.canLayAll0 ds = true → PyData.eqvAll ds ds = true
  | [], _ => by unfold PyData.eqvAll; rfl
  | d :: ds, h => by
    unfold PyData.eqvAll
    unfold PyData.canLayAll0 at h
    rw [Bool.and_eq_true] at h ⊢
    exact ⟨eqv_self d h.1, eqvAll_self ds h.2⟩
end
theorem hEq_self {d : PyData} (h : SeqAt.shaped d = true) : hEq d d = .ok (.bool true) := by
  unfold hEq
  rw [h, eqv_self d (SeqAt.canLay_of_shaped h)]
  rfl
theorem hNe_self {d : PyData} (h : SeqAt.shaped d = true) : hNe d d = .ok (.bool false) := by
  unfold hNe
  rw [h, eqv_self d (SeqAt.canLay_of_shaped h)]
  rfl
theorem layA_of {ds : List PyData} (h : ∀ d ∈ ds, PyData.canLay0 d = true) : PyData.canLayAll0 ds = true := by
  induction ds with
  | nil => rfl
  | cons d ds ih =>
    unfold PyData.canLayAll0
    rw [h d List.mem_cons_self, ih fun e he => h e (List.mem_cons_of_mem _ he)]
    rfl
theorem depA_of {ds : List PyData} {m : Nat} (h : ∀ d ∈ ds, PyData.depth d ≤ m) : PyData.depthAll ds ≤ m := by
  induction ds with
  | nil => unfold PyData.depthAll; omega
  | cons d ds ih =>
    unfold PyData.depthAll
    have h1 := h d List.mem_cons_self
    have h2 := ih fun e he => h e (List.mem_cons_of_mem _ he)
    omega
/-- shaped, of a depth at most m -/
def Shp (m : Nat) (d : PyData) : Prop := PyData.canLay0 d = true ∧ PyData.depth d ≤ m
theorem Shp.shaped {m : Nat} {d : PyData} (h : Shp m d) (hm : m ≤ 64) : SeqAt.shaped d = true := by
  unfold SeqAt.shaped
  rw [h.1, decide_eq_true (by have := h.2; omega)]
  rfl
theorem shp_int (i : Int) (m : Nat) : Shp m (.int i) := ⟨rfl, by unfold PyData.depth; omega⟩
theorem shp_none (m : Nat) : Shp m .none := ⟨rfl, by unfold PyData.depth; omega⟩
theorem shp_bool (b : Bool) (m : Nat) : Shp m (.bool b) := ⟨rfl, by unfold PyData.depth; omega⟩
theorem shp_list {ds : List PyData} {m : Nat} (h : ∀ d ∈ ds, Shp m d) : Shp (m + 1) (.list ds) := ⟨by unfold PyData.canLay0; exact layA_of fun d hd => (h d hd).1, by
  unfold PyData.depth
  have := depA_of fun d hd => (h d hd).2
  omega⟩
theorem shp_tup {ds : List PyData} {m : Nat} (h : ∀ d ∈ ds, Shp m d) : Shp (m + 1) (.tuple ds) := ⟨by unfold PyData.canLay0; exact layA_of fun d hd => (h d hd).1, by
  unfold PyData.depth
  have := depA_of fun d hd => (h d hd).2
  omega⟩
theorem Shp.mono {m k : Nat} {d : PyData} (h : Shp m d) (hm : m ≤ k) : Shp k d := ⟨h.1, Nat.le_trans h.2 hm⟩
theorem shp_ints (xs : List Int) (m : Nat) : Shp (m + 1) (.list (xs.map .int)) := shp_list fun d hd => by
  obtain ⟨x, _, rfl⟩ := List.mem_map.mp hd
  exact shp_int x m
theorem shp_intsT (xs : List Int) (m : Nat) : Shp (m + 1) (.tuple (xs.map .int)) := shp_tup fun d hd => by
  obtain ⟨x, _, rfl⟩ := List.mem_map.mp hd
  exact shp_int x m
end Sim
end T_EqP

section T_K59M
set_option linter.all false
set_option maxRecDepth 100000
/-! K59M: ways walked, plain. -/
namespace K59
open PySem Sim FamA

def ne3 (t : T3) : Bool := !(t.2.1 == t.2.2)
def tieOf (r : List T3) (m : Int) : Option T3 := r.find? fun t => t.1 == m && ne3 t
def on (t : T3) (p : Int) : Bool := p == t.2.1 || p == t.2.2
/-- by the dict: each moment once -/
def go (r : List T3) (used : List Int) (p : Int) : List Int → Option Int
  | [] => some p
  | m :: ms => if m ∈ used then none else match tieOf r m with
    | none => none
    | some t => if on t p then go r (m :: used) (t.2.1 + t.2.2 - p) ms else none
/-- by the law -/
def goD (r : List T3) (p : Int) : List Int → Option Int
  | [] => some p
  | m :: ms => match tieOf r m with
    | none => none
    | some t => if on t p then goD r (t.2.1 + t.2.2 - p) ms else none
theorem go_eq (r : List T3) : ∀ (ms : List Int) (used : List Int) (p : Int), go r used p ms = if ms.Nodup ∧ (∀ m ∈ ms, m ∉ used) then goD r p ms else none
  | [], used, p => by
    rw [if_pos ⟨List.nodup_nil, fun _ h => by cases h⟩]
    rfl
  | m :: ms, used, p => by
    unfold go goD
    by_cases c : m ∈ used
    · rw [if_pos c, if_neg fun h => h.2 m List.mem_cons_self c]
    · rw [if_neg c]
      cases e : tieOf r m with
      | none => simp
      | some t =>
        simp only
        by_cases o : on t p = true
        · rw [if_pos o, if_pos o, go_eq r ms (m :: used)]
          have : (ms.Nodup ∧ ∀ x ∈ ms, x ∉ m :: used) ↔ ((m :: ms).Nodup ∧ ∀ x ∈ m :: ms, x ∉ used) := by
            constructor
            · rintro ⟨h1, h2⟩
              refine ⟨List.nodup_cons.mpr ⟨fun h => h2 m h List.mem_cons_self, h1⟩, fun x hx => ?_⟩
              rcases List.mem_cons.mp hx with rfl | hx
              · exact c
              · exact fun z => h2 x hx (List.mem_cons_of_mem _ z)
            · rintro ⟨h1, h2⟩
              obtain ⟨h3, h4⟩ := List.nodup_cons.mp h1
              refine ⟨h4, fun x hx z => ?_⟩
              rcases List.mem_cons.mp z with rfl | z
              · exact h3 hx
              · exact h2 x (List.mem_cons_of_mem _ hx) z
          simp only [this]
        · rw [if_neg o, if_neg o]
          simp
theorem goD_cons (r : List T3) (p m : Int) (ms : List Int) : goD r p (m :: ms) = match tieOf r m with
    | none => none
    | some t => if on t p then goD r (t.2.1 + t.2.2 - p) ms else none := rfl
theorem goD_app (r : List T3) : ∀ (a b : List Int) (p q : Int), goD r p a = some q → goD r p (a ++ b) = goD r q b
  | [], b, p, q, h => by cases h; rfl
  | m :: a, b, p, q, h => by
    rw [List.cons_append]
    rw [goD_cons] at h ⊢
    cases e : tieOf r m with
    | none => rw [e] at h; cases h
    | some t =>
      rw [e] at h
      simp only at h ⊢
      by_cases o : on t p = true
      · rw [if_pos o] at h ⊢
        exact goD_app r a b _ q h
      · rw [if_neg o] at h; cases h
theorem on_back {t : T3} {p : Int} (h : on t p = true) : on t (t.2.1 + t.2.2 - p) = true := by
  unfold on at h ⊢
  rw [Bool.or_eq_true, beq_iff_eq, beq_iff_eq] at h ⊢
  omega
/-- back by the same moments -/
theorem goD_rev (r : List T3) : ∀ (a : List Int) (p q : Int), goD r p a = some q → goD r q a.reverse = some p
  | [], p, q, h => by cases h; rfl
  | m :: a, p, q, h => by
    unfold goD at h
    cases e : tieOf r m with
    | none => rw [e] at h; cases h
    | some t =>
      rw [e] at h
      simp only at h
      by_cases o : on t p = true
      · rw [if_pos o] at h
        rw [List.reverse_cons, goD_app r a.reverse [m] q _ (goD_rev r a _ q h)]
        unfold goD
        rw [e]
        simp only
        rw [if_pos (on_back o)]
        unfold goD
        congr 1
        omega
      · rw [if_neg o] at h; cases h
/-- what way_right tells -/
def right (r : List T3) (a b : Int) (ms : List Int) : Bool := match go r [] a ms with
  | some p => p == b
  | none => false
theorem right_eq (r : List T3) (a b : Int) (ms : List Int) : right r a b ms = if ms.Nodup then (match goD r a ms with | some p => p == b | none => false) else false := by
  unfold right
  rw [go_eq]
  by_cases c : ms.Nodup
  · rw [if_pos ⟨c, fun _ _ h => by cases h⟩, if_pos c]
  · rw [if_neg fun h => c h.1, if_neg c]
/-- the ties by which one may go on, as the law lists them -/
theorem near_one {r : List T3} (h : r.Pairwise fun s t => s.1 < t.1) (m p : Int) : (r.filter fun t => t.1 == m && (ne3 t && on t p)) = match tieOf r m with
    | some t => if on t p then [t] else []
    | none => [] := by
  induction r with
  | nil => rfl
  | cons u r ih =>
    obtain ⟨h1, h2⟩ := List.pairwise_cons.mp h
    have ih := ih h2
    unfold tieOf at ih ⊢
    rw [List.filter_cons, List.find?_cons]
    by_cases c : u.1 = m
    · have hr : (r.filter fun t => t.1 == m && (ne3 t && on t p)) = [] := by
        rw [List.filter_eq_nil_iff]
        intro t ht z
        have := h1 t ht
        rw [Bool.and_eq_true, beq_iff_eq] at z
        omega
      have hn : (r.find? fun t => t.1 == m && ne3 t) = none := by
        rw [List.find?_eq_none]
        intro t ht z
        have := h1 t ht
        rw [Bool.and_eq_true, beq_iff_eq] at z
        omega
      rw [hr]
      have e : (u.1 == m) = true := by simp [c]
      rw [e, Bool.true_and, Bool.true_and]
      cases hne : ne3 u with
      | true =>
        simp only [Bool.true_and]
      | false =>
        simp [hn]
    · have e : (u.1 == m) = false := by simp [c]
      rw [e, Bool.false_and, Bool.false_and]
      simpa using ih
end K59
end T_K59M

section T_K58
set_option Elab.async false
set_option linter.all false
set_option maxRecDepth 100000
set_option maxHeartbeats 4000000
namespace K58
open PySem PySem.Spec L2 Sim
open PyProof.Rows hiding St
def topS (i : Nat) : Stmt := PySem.Challenge.pw_sinceply_k58_papers_judged.main.body.getD i (.Pass ⟨0, 0, 0, 0⟩)
abbrev st_is_whole : Stmt := topS 10
theorem sc_is_whole : FnScope ["thing"] ["thing"] (defScope st_is_whole) := ⟨rfl, rfl, rfl, by decide +kernel, rfl, by decide +kernel, by decide +kernel⟩
abbrev st_is_place : Stmt := topS 11
theorem sc_is_place : FnScope ["n", "thing"] ["n", "thing"] (defScope st_is_place) := ⟨rfl, rfl, rfl, by decide +kernel, rfl, by decide +kernel, by decide +kernel⟩
abbrev st_since : Stmt := topS 12
theorem sc_since : FnScope ["record", "t", "tie"] ["record", "t"] (defScope st_since) := ⟨rfl, rfl, rfl, by decide +kernel, rfl, by decide +kernel, by decide +kernel⟩
abbrev st_rim : Stmt := topS 14
theorem sc_rim : FnScope ["record", "side", "moment", "a", "b"] ["record", "side"] (defScope st_rim) := ⟨rfl, rfl, rfl, by decide +kernel, rfl, by decide +kernel, by decide +kernel⟩
abbrev st_way_right : Stmt := topS 15
theorem sc_way_right : FnScope ["record", "a", "b", "way", "ends", "moment", "one", "other", "place"] ["record", "a", "b", "way"] (defScope st_way_right) := ⟨rfl, rfl, rfl, by decide +kernel, rfl, by decide +kernel, by decide +kernel⟩
abbrev st_are_apart : Stmt := topS 17
theorem sc_are_apart : FnScope ["ways", "seen", "way", "moment"] ["ways"] (defScope st_are_apart) := ⟨rfl, rfl, rfl, by decide +kernel, rfl, by decide +kernel, by decide +kernel⟩
abbrev st_many_ways : Stmt := topS 18
theorem sc_many_ways : FnScope ["record", "a", "b", "ways", "way"] ["record", "a", "b", "ways"] (defScope st_many_ways) := ⟨rfl, rfl, rfl, by decide +kernel, rfl, by decide +kernel, by decide +kernel⟩
abbrev st_is_side : Stmt := topS 19
theorem sc_is_side : FnScope ["n", "side", "place", "at"] ["n", "side"] (defScope st_is_side) := ⟨rfl, rfl, rfl, by decide +kernel, rfl, by decide +kernel, by decide +kernel⟩
abbrev st_judged_pair : Stmt := topS 20
theorem sc_judged_pair : FnScope ["n", "record", "paper", "word", "a", "b", "t", "shown"] ["n", "record", "paper"] (defScope st_judged_pair) := ⟨rfl, rfl, rfl, by decide +kernel, rfl, by decide +kernel, by decide +kernel⟩
abbrev st_judged_out : Stmt := topS 21
theorem sc_judged_out : FnScope ["record", "paper", "word", "moment", "ways", "tie"] ["record", "paper"] (defScope st_judged_out) := ⟨rfl, rfl, rfl, by decide +kernel, rfl, by decide +kernel, by decide +kernel⟩
abbrev st_judged : Stmt := topS 22
theorem sc_judged : FnScope ["n", "record", "paper"] ["n", "record", "paper"] (defScope st_judged) := ⟨rfl, rfl, rfl, by decide +kernel, rfl, by decide +kernel, by decide +kernel⟩
abbrev st_l_mixed : Stmt := topS 24
theorem sc_l_mixed : FnScope ["cell", "k", "number"] ["cell", "k"] (defScope st_l_mixed) := ⟨rfl, rfl, rfl, by decide +kernel, rfl, by decide +kernel, by decide +kernel⟩
abbrev st_l_numbers : Stmt := topS 25
theorem sc_l_numbers : FnScope ["cell", "many", "base", "found", "left", "k", "number", "turns"] ["cell", "many", "base"] (defScope st_l_numbers) := ⟨rfl, rfl, rfl, by decide +kernel, rfl, by decide +kernel, by decide +kernel⟩
abbrev st_l_ends : Stmt := topS 26
theorem sc_l_ends : FnScope ["n", "kind", "one", "other", "a"] ["n", "kind", "one", "other"] (defScope st_l_ends) := ⟨rfl, rfl, rfl, by decide +kernel, rfl, by decide +kernel, by decide +kernel⟩
abbrev st_l_record : Stmt := topS 27
theorem sc_l_record : FnScope ["numbers", "most", "n", "many", "wide", "moment", "record", "k", "a", "b"] ["numbers", "most"] (defScope st_l_record) := ⟨rfl, rfl, rfl, by decide +kernel, rfl, by decide +kernel, by decide +kernel⟩
abbrev st_l_great : Stmt := topS 28
theorem sc_l_great : FnScope ["numbers", "number"] ["numbers", "number"] (defScope st_l_great) := ⟨rfl, rfl, rfl, by decide +kernel, rfl, by decide +kernel, by decide +kernel⟩
abbrev st_l_went : Stmt := topS 29
theorem sc_l_went : FnScope ["ties", "a", "b", "numbers", "used", "way", "place", "number", "near", "tie", "moment", "one", "other"] ["ties", "a", "b", "numbers", "used"] (defScope st_l_went) := ⟨rfl, rfl, rfl, by decide +kernel, rfl, by decide +kernel, by decide +kernel⟩
abbrev st_l_leads : Stmt := topS 30
theorem sc_l_leads : FnScope ["ties", "a", "b", "way", "place", "moment", "ends", "tie"] ["ties", "a", "b", "way"] (defScope st_l_leads) := ⟨rfl, rfl, rfl, by decide +kernel, rfl, by decide +kernel, by decide +kernel⟩
abbrev st_l_apart : Stmt := topS 31
theorem sc_l_apart : FnScope ["ways", "moments", "way"] ["ways"] (defScope st_l_apart) := ⟨rfl, rfl, rfl, by decide +kernel, rfl, by decide +kernel, by decide +kernel⟩
abbrev st_l_ways_due : Stmt := topS 32
theorem sc_l_ways_due : FnScope ["ties", "a", "b", "ways", "way"] ["ties", "a", "b", "ways"] (defScope st_l_ways_due) := ⟨rfl, rfl, rfl, by decide +kernel, rfl, by decide +kernel, by decide +kernel⟩
abbrev st_l_due : Stmt := topS 33
theorem sc_l_due : FnScope ["n", "record", "paper", "ends", "tie", "later", "many", "word", "a", "b", "t", "shown"] ["n", "record", "paper"] (defScope st_l_due) := ⟨rfl, rfl, rfl, by decide +kernel, rfl, by decide +kernel, by decide +kernel⟩
abbrev st_l_judged : Stmt := topS 34
theorem sc_l_judged : FnScope ["n", "record", "paper", "caught", "found", "e"] ["n", "record", "paper"] (defScope st_l_judged) := ⟨rfl, rfl, rfl, by decide +kernel, rfl, by decide +kernel, by decide +kernel⟩
abbrev st_l_odd : Stmt := topS 35
theorem sc_l_odd : FnScope ["paper", "number", "other", "some"] ["paper", "number"] (defScope st_l_odd) := ⟨rfl, rfl, rfl, by decide +kernel, rfl, by decide +kernel, by decide +kernel⟩
abbrev st_l_side : Stmt := topS 36
theorem sc_l_side : FnScope ["n", "a", "b", "numbers", "side", "place", "way"] ["n", "a", "b", "numbers"] (defScope st_l_side) := ⟨rfl, rfl, rfl, by decide +kernel, rfl, by decide +kernel, by decide +kernel⟩
abbrev st_l_papers : Stmt := topS 37
theorem sc_l_papers : FnScope ["n", "record", "numbers", "a", "b", "some", "tie", "t", "later", "ways", "used", "k", "way", "near", "back", "moment", "one", "other", "young", "here", "there", "both"] ["n", "record", "numbers"] (defScope st_l_papers) := ⟨rfl, rfl, rfl, by decide +kernel, rfl, by decide +kernel, by decide +kernel⟩
abbrev st_law : Stmt := topS 38
theorem sc_law : FnScope ["script", "cell", "numbers", "n", "record", "paper", "handed"] ["script"] (defScope st_law) := ⟨rfl, rfl, rfl, by decide +kernel, rfl, by decide +kernel, by decide +kernel⟩
structure Tx (K : PySem.W.Frag) (mg : Str → Option Value) where
  a_is_whole : Addr
  d_is_whole : FuncData
  F_is_whole : L2.Fun K "is_whole" "is_whole" st_is_whole a_is_whole d_is_whole
  m_is_whole : mg "is_whole" = some (.ref a_is_whole)
  b_is_whole : Binds K d_is_whole ["thing"] []
  a_is_place : Addr
  d_is_place : FuncData
  F_is_place : L2.Fun K "is_place" "is_place" st_is_place a_is_place d_is_place
  m_is_place : mg "is_place" = some (.ref a_is_place)
  b_is_place : Binds K d_is_place ["n", "thing"] []
  a_since : Addr
  d_since : FuncData
  F_since : L2.Fun K "since" "since" st_since a_since d_since
  m_since : mg "since" = some (.ref a_since)
  b_since : Binds K d_since ["record", "t"] []
  a_rim : Addr
  d_rim : FuncData
  F_rim : L2.Fun K "rim" "rim" st_rim a_rim d_rim
  m_rim : mg "rim" = some (.ref a_rim)
  b_rim : Binds K d_rim ["record", "side"] []
  a_way_right : Addr
  d_way_right : FuncData
  F_way_right : L2.Fun K "way_right" "way_right" st_way_right a_way_right d_way_right
  m_way_right : mg "way_right" = some (.ref a_way_right)
  b_way_right : Binds K d_way_right ["record", "a", "b", "way"] []
  a_are_apart : Addr
  d_are_apart : FuncData
  F_are_apart : L2.Fun K "are_apart" "are_apart" st_are_apart a_are_apart d_are_apart
  m_are_apart : mg "are_apart" = some (.ref a_are_apart)
  b_are_apart : Binds K d_are_apart ["ways"] []
  a_many_ways : Addr
  d_many_ways : FuncData
  F_many_ways : L2.Fun K "many_ways" "many_ways" st_many_ways a_many_ways d_many_ways
  m_many_ways : mg "many_ways" = some (.ref a_many_ways)
  b_many_ways : Binds K d_many_ways ["record", "a", "b", "ways"] []
  a_is_side : Addr
  d_is_side : FuncData
  F_is_side : L2.Fun K "is_side" "is_side" st_is_side a_is_side d_is_side
  m_is_side : mg "is_side" = some (.ref a_is_side)
  b_is_side : Binds K d_is_side ["n", "side"] []
  a_judged_pair : Addr
  d_judged_pair : FuncData
  F_judged_pair : L2.Fun K "judged_pair" "judged_pair" st_judged_pair a_judged_pair d_judged_pair
  m_judged_pair : mg "judged_pair" = some (.ref a_judged_pair)
  b_judged_pair : Binds K d_judged_pair ["n", "record", "paper"] []
  a_judged_out : Addr
  d_judged_out : FuncData
  F_judged_out : L2.Fun K "judged_out" "judged_out" st_judged_out a_judged_out d_judged_out
  m_judged_out : mg "judged_out" = some (.ref a_judged_out)
  b_judged_out : Binds K d_judged_out ["record", "paper"] []
  a_judged : Addr
  d_judged : FuncData
  F_judged : L2.Fun K "judged" "judged" st_judged a_judged d_judged
  m_judged : mg "judged" = some (.ref a_judged)
  b_judged : Binds K d_judged ["n", "record", "paper"] []
  a_l_mixed : Addr
  d_l_mixed : FuncData
  F_l_mixed : L2.Fun K "_law_mixed" "_law_mixed" st_l_mixed a_l_mixed d_l_mixed
  m_l_mixed : mg "_law_mixed" = some (.ref a_l_mixed)
  b_l_mixed : Binds K d_l_mixed ["cell", "k"] []
  a_l_numbers : Addr
  d_l_numbers : FuncData
  F_l_numbers : L2.Fun K "_law_numbers" "_law_numbers" st_l_numbers a_l_numbers d_l_numbers
  m_l_numbers : mg "_law_numbers" = some (.ref a_l_numbers)
  b_l_numbers : Binds K d_l_numbers ["cell", "many", "base"] []
  a_l_ends : Addr
  d_l_ends : FuncData
  F_l_ends : L2.Fun K "_law_ends" "_law_ends" st_l_ends a_l_ends d_l_ends
  m_l_ends : mg "_law_ends" = some (.ref a_l_ends)
  b_l_ends : Binds K d_l_ends ["n", "kind", "one", "other"] []
  a_l_record : Addr
  d_l_record : FuncData
  F_l_record : L2.Fun K "_law_record" "_law_record" st_l_record a_l_record d_l_record
  m_l_record : mg "_law_record" = some (.ref a_l_record)
  b_l_record : Binds K d_l_record ["numbers", "most"] []
  a_l_great : Addr
  d_l_great : FuncData
  F_l_great : L2.Fun K "_law_great" "_law_great" st_l_great a_l_great d_l_great
  m_l_great : mg "_law_great" = some (.ref a_l_great)
  b_l_great : Binds K d_l_great ["numbers", "number"] []
  a_l_went : Addr
  d_l_went : FuncData
  F_l_went : L2.Fun K "_law_went" "_law_went" st_l_went a_l_went d_l_went
  m_l_went : mg "_law_went" = some (.ref a_l_went)
  b_l_went : Binds K d_l_went ["ties", "a", "b", "numbers", "used"] []
  a_l_leads : Addr
  d_l_leads : FuncData
  F_l_leads : L2.Fun K "_law_leads" "_law_leads" st_l_leads a_l_leads d_l_leads
  m_l_leads : mg "_law_leads" = some (.ref a_l_leads)
  b_l_leads : Binds K d_l_leads ["ties", "a", "b", "way"] []
  a_l_apart : Addr
  d_l_apart : FuncData
  F_l_apart : L2.Fun K "_law_apart" "_law_apart" st_l_apart a_l_apart d_l_apart
  m_l_apart : mg "_law_apart" = some (.ref a_l_apart)
  b_l_apart : Binds K d_l_apart ["ways"] []
  a_l_ways_due : Addr
  d_l_ways_due : FuncData
  F_l_ways_due : L2.Fun K "_law_ways_due" "_law_ways_due" st_l_ways_due a_l_ways_due d_l_ways_due
  m_l_ways_due : mg "_law_ways_due" = some (.ref a_l_ways_due)
  b_l_ways_due : Binds K d_l_ways_due ["ties", "a", "b", "ways"] []
  a_l_due : Addr
  d_l_due : FuncData
  F_l_due : L2.Fun K "_law_due" "_law_due" st_l_due a_l_due d_l_due
  m_l_due : mg "_law_due" = some (.ref a_l_due)
  b_l_due : Binds K d_l_due ["n", "record", "paper"] []
  a_l_judged : Addr
  d_l_judged : FuncData
  F_l_judged : L2.Fun K "_law_judged" "_law_judged" st_l_judged a_l_judged d_l_judged
  m_l_judged : mg "_law_judged" = some (.ref a_l_judged)
  b_l_judged : Binds K d_l_judged ["n", "record", "paper"] []
  a_l_odd : Addr
  d_l_odd : FuncData
  F_l_odd : L2.Fun K "_law_odd" "_law_odd" st_l_odd a_l_odd d_l_odd
  m_l_odd : mg "_law_odd" = some (.ref a_l_odd)
  b_l_odd : Binds K d_l_odd ["paper", "number"] []
  a_l_side : Addr
  d_l_side : FuncData
  F_l_side : L2.Fun K "_law_side" "_law_side" st_l_side a_l_side d_l_side
  m_l_side : mg "_law_side" = some (.ref a_l_side)
  b_l_side : Binds K d_l_side ["n", "a", "b", "numbers"] []
  a_l_papers : Addr
  d_l_papers : FuncData
  F_l_papers : L2.Fun K "_law_papers" "_law_papers" st_l_papers a_l_papers d_l_papers
  m_l_papers : mg "_law_papers" = some (.ref a_l_papers)
  b_l_papers : Binds K d_l_papers ["n", "record", "numbers"] []
  a_law : Addr
  d_law : FuncData
  F_law : L2.Fun K "law" "law" st_law a_law d_law
  m_law : mg "law" = some (.ref a_law)
  b_law : Binds K d_law ["script"] []
  n_isinstance : mg "isinstance" = none
  n_int : mg "int" = none
  n_bool : mg "bool" = none
  n_list : mg "list" = none
  n_all : mg "all" = none
  n_len : mg "len" = none
  n_tuple : mg "tuple" = none
  n_range : mg "range" = none
  n_min : mg "min" = none
  n_max : mg "max" = none
  n_set : mg "set" = none
  n_sorted : mg "sorted" = none
  n_ValueError : mg "ValueError" = none
  C_NoPaper : Addr
  E_NoPaper : ExT K mg "NoPaper" C_NoPaper
  Q_NoPaper : PySem.W.excIn K C_NoPaper veB "ValueError.__new__" = true
  C_PlyError : Addr
  E_PlyError : ExT K mg "PlyError" C_PlyError
  C_Unlike : Addr
  E_Unlike : ExT K mg "Unlike" C_Unlike
  C_NoTies : Addr
  E_NoTies : ExT K mg "NoTies" C_NoTies
  C_NoText : Addr
  E_NoText : ExT K mg "NoText" C_NoText
  C_NoPair : Addr
  E_NoPair : ExT K mg "NoPair" C_NoPair
  C_NoNet : Addr
  E_NoNet : ExT K mg "NoNet" C_NoNet
  C_Clash : Addr
  E_Clash : ExT K mg "Clash" C_Clash
  S_NoPaper_PlyError : PySem.W.subIn K (.ref C_NoPaper) (.ref C_PlyError) = some true
  S_NoPaper_NoPaper : PySem.W.subIn K (.ref C_NoPaper) (.ref C_NoPaper) = some true
  S_NoPaper_ValueError : PySem.W.subIn K (.ref C_NoPaper) (.type "ValueError") = some true
  S_NoPaper_Unlike : PySem.W.subIn K (.ref C_NoPaper) (.ref C_Unlike) = some false
  S_NoPaper_NoTies : PySem.W.subIn K (.ref C_NoPaper) (.ref C_NoTies) = some false
  S_NoPaper_NoText : PySem.W.subIn K (.ref C_NoPaper) (.ref C_NoText) = some false
  S_NoPaper_NoPair : PySem.W.subIn K (.ref C_NoPaper) (.ref C_NoPair) = some false
  S_NoPaper_NoNet : PySem.W.subIn K (.ref C_NoPaper) (.ref C_NoNet) = some false
  S_NoPaper_Clash : PySem.W.subIn K (.ref C_NoPaper) (.ref C_Clash) = some false
section
variable {P : Program} {w : World} {K : PySem.W.Frag} {mg : Str → Option Value} {base : Heap}
/-! ### is_whole -/
def g_is_whole : Gs := gRet (gAndV (gUn (hIsa .int) (gVar 0)) (gNotV (gUn (hIsa .bool) (gVar 0))))
def f_is_whole : List Dt → O Dt := fnN 1 g_is_whole
theorem ok_is_whole (t : Tx K mg) : FnOk P w K mg base CX0 1 t.a_is_whole t.d_is_whole ["thing"] (spG K mg 1 f_is_whole) := by
  have nd : (["thing"] : List Str).Nodup := by decide +kernel
  exact fn_okN t.F_is_whole (Δn := [.im false]) sc_is_whole rfl rfl (by decide) fun cdv A outer s H E hr => ⟨_, BD.frm [.im false] (Δb := kd0 1 1 false) (Δc := kd0 1 1 false)
    (b_one (z_ret (x_and (x_isa .int t.n_isinstance t.n_int (x_var 0)) (x_one (x_not (x_isa .bool t.n_isinstance t.n_bool (x_var 0))))))) rfl⟩
/-! ### is_place -/
def g_is_place : Gs := gRet (gAndV (gCallN 1 f_is_whole (gCons (gVar 1) (gNil))) (gChain hLe hLt (gC (.int (0))) (gVar 1) (gVar 0)))
def f_is_place : List Dt → O Dt := fnN 2 g_is_place
theorem ok_is_place (t : Tx K mg) : FnOk P w K mg base CX0 2 t.a_is_place t.d_is_place ["n", "thing"] (spG K mg 2 f_is_place) := by
  have G_is_whole := ok_is_whole (P := P) (w := w) (base := base) t
  have nd : (["n", "thing"] : List Str).Nodup := by decide +kernel
  exact fn_okN t.F_is_place (Δn := [.im false, .im false]) sc_is_place rfl rfl (by decide) fun cdv A outer s H E hr => ⟨_, BD.frm [.im false, .im false] (Δb := kd0 2 2 false) (Δc := kd0 2 2 false)
    (b_one (z_ret (x_and (x_callN G_is_whole (hr.mono (by decide)) t.m_is_whole t.F_is_whole.kp t.b_is_whole pass0 (AD.to true false (a_cons (x_var 1) (a_nil)))) (x_one (x_chain or_le or_lt (x_int) (x_var 1) (x_var 0)))))) rfl⟩
/-! ### since -/
def g_since : Gs := gRet (gPurN (gLc (gSeq (gVar 0)) (tgN 2) (gTest (gOp hGe (gOp hIx (gVar 2) (gC (.int (0)))) (gVar 1))) (gVar 2)))
def f_since : List Dt → O Dt := fnL 3 g_since
theorem ok_since (t : Tx K mg) : FnOk P w K mg base CX0 1 t.a_since t.d_since ["record", "t"] (spL K mg 2 f_since) := by
  have nd : (["record", "t", "tie"] : List Str).Nodup := by decide +kernel
  exact fn_okL t.F_since (Δn := [.im false, .im false, .no]) sc_since rfl rfl (by decide) fun cdv A outer s H E hr => ⟨_, BD.frm [.im false, .im false, .no] (Δb := kd0 2 3 false) (Δc := kd0 2 3 false)
    (b_one (z_retL (PD.purN (x_lc (n := 3) [("tie", 2)] nd (i_seq (x_var 0)) (blk_fx (N := ["record", "t", "tie"]) (sc := defScope st_since) (by decide +kernel)) (fun _ _ _ _ _ => g_name 2 nd) (fun _ _ _ _ _ => t_one (c_cmp or_ge (x_ix (x_var 2) (x_int)) (x_var 1))) (fun _ _ _ _ _ => x_var 2))))) rfl⟩
/-! ### rim -/
def g_rim : Gs := gRet (gPurN (gLc (gSeq (gVar 0)) (tgT (tgCons (tgN 2) (tgCons (tgN 3) (tgCons (tgN 4) (tgNil))))) (gTest (gOp hNe (gOp hIn (gVar 3) (gVar 1)) (gOp hIn (gVar 4) (gVar 1)))) (gVar 2)))
def f_rim : List Dt → O Dt := fnL 5 g_rim
theorem ok_rim (t : Tx K mg) : FnOk P w K mg base CX0 1 t.a_rim t.d_rim ["record", "side"] (spL K mg 2 f_rim) := by
  have nd : (["record", "side", "moment", "a", "b"] : List Str).Nodup := by decide +kernel
  exact fn_okL t.F_rim (Δn := [.im false, .im false, .no, .no, .no]) sc_rim rfl rfl (by decide) fun cdv A outer s H E hr => ⟨_, BD.frm [.im false, .im false, .no, .no, .no] (Δb := kd0 2 5 false) (Δc := kd0 2 5 false)
    (b_one (z_retL (PD.purN (x_lc (n := 5) [("moment", 2), ("a", 3), ("b", 4)] nd (i_seq (x_var 0)) (blk_fx (N := ["record", "side", "moment", "a", "b"]) (sc := defScope st_rim) (by decide +kernel)) (fun _ _ _ _ _ => g_tup (m := 3) rfl (g_cons (g_name 2 nd) (g_cons (g_name 3 nd) (g_cons (g_name 4 nd) (g_nil)))) (tgCons_len (tgCons_len (tgCons_len tgNil_len)))) (fun _ _ _ _ _ => t_one (c_cmp (or_ne hr) (x_cmp (or_in hr) (x_var 3) (x_var 1)) (x_cmp (or_in hr) (x_var 4) (x_var 1)))) (fun _ _ _ _ _ => x_var 2))))) rfl⟩
/-! ### way_right -/
def g_way_right_L1 : Gs := gIfS (gTest (gOp hNe (gVar 6) (gVar 7))) (gDPut 4 (gTup (gCons (gVar 6) (gCons (gVar 7) (gNil)))) (gVar 5)) (gNext)
def g_way_right_L2 : Gs := gSeqS (gIfS (gOr (gTest (gDIn true 4 (gVar 5))) (gTest (gOp hNotIn (gVar 8) (gDGet 4 (gVar 5))))) (gRet (gC (.bool false))) (gNext)) (gSeqS (gDPop 4 (gVar 5) (tgT (tgCons (tgN 6) (tgCons (tgN 7) (tgNil))))) (gSet 8 (gOp hSub (gOp hAdd (gVar 6) (gVar 7)) (gVar 8))))
def g_way_right : Gs := gSeqS (gSet 4 (gDNew)) (gSeqS (gFor (gSeq (gVar 0)) (tgT (tgCons (tgN 5) (tgCons (tgN 6) (tgCons (tgN 7) (tgNil))))) g_way_right_L1) (gSeqS (gSet 8 (gVar 1)) (gSeqS (gFor (gSeq (gVar 3)) (tgN 5) g_way_right_L2) (gRet (gOp hEq (gVar 8) (gVar 2))))))
def f_way_right : List Dt → O Dt := fnN 9 g_way_right
theorem ok_way_right (t : Tx K mg) : FnOk P w K mg base CX0 1 t.a_way_right t.d_way_right ["record", "a", "b", "way"] (spG K mg 4 f_way_right) := by
  have nd : (["record", "a", "b", "way", "ends", "moment", "one", "other", "place"] : List Str).Nodup := by decide +kernel
  exact fn_okN t.F_way_right (Δn := [.im false, .im false, .im false, .im false, .no, .no, .no, .no, .no]) sc_way_right rfl rfl (by decide) fun cdv A outer s H E hr => ⟨_, BD.frm [.im false, .im false, .im false, .im false, .no, .no, .no, .no, .no] (Δb := kd0 4 9 false) (Δc := kd0 4 9 false)
    (b_cons ((z_setO 4 nd (x_dnew)).to [.im false, .im false, .im false, .im false, .own .dk true, .no, .no, .no, .no])
    (b_cons (SD.frm [.im false, .im false, .im false, .im false, .own .dk false, .no, .no, .no, .no] (z_for (n := 9) .never (i_seq (x_var 0)) (g_tup (m := 3) rfl (g_cons (g_name 5 nd) (g_cons (g_name 6 nd) (g_cons (g_name 7 nd) (g_nil)))) (tgCons_len (tgCons_len (tgCons_len tgNil_len))))
    ((b_one (z_if (Δn := [.im false, .im false, .im false, .im false, .own .dk false, .im false, .im false, .im false, .no]) (c_cmp (or_ne hr) (x_var 6) (x_var 7))
    ((b_one ((z_dput 4 hr (x_tup (AD.to true false (a_cons (x_var 6) (a_cons (x_var 7) (a_nil))))) (x_var 5)).to [.im false, .im false, .im false, .im false, .own .dk false, .im false, .im false, .im false, .no])).to [.im false, .im false, .im false, .im false, .own .dk false, .im false, .im false, .im false, .no])
    ((b_nil).to [.im false, .im false, .im false, .im false, .own .dk false, .im false, .im false, .im false, .no]))).to [.im false, .im false, .im false, .im false, .own .dk false, .no, .no, .no, .no])))
    (b_cons ((z_set 8 nd (x_var 1)).to [.im false, .im false, .im false, .im false, .own .dk false, .no, .no, .no, .im false])
    (b_cons (z_for (n := 9) .never (i_seq (x_var 3)) (g_name 5 nd)
    ((b_cons (z_if (Δn := [.im false, .im false, .im false, .im false, .own .dk false, .im false, .no, .no, .im false]) (c_w (w_or (c_dnin 4 hr (x_var 5)) (w_or1 (c_cmp (or_notIn hr) (x_var 8) (x_dget 4 hr (x_var 5))))))
    (b_one (z_ret (x_bl)))
    ((b_nil).to [.im false, .im false, .im false, .im false, .own .dk false, .im false, .no, .no, .im false]))
    (b_cons ((z_dpop 4 (n := 9) (x_var 5) (g_tup (m := 2) rfl (g_cons (g_name 6 nd) (g_cons (g_name 7 nd) (g_nil))) (tgCons_len (tgCons_len tgNil_len)))).to [.im false, .im false, .im false, .im false, .own .dk false, .im false, .im false, .im false, .im false])
    (b_one ((z_set 8 nd (x_sub (x_add (x_var 6) (x_var 7)) (x_var 8))).to [.im false, .im false, .im false, .im false, .own .dk false, .im false, .im false, .im false, .im true])))).to [.im false, .im false, .im false, .im false, .own .dk false, .no, .no, .no, .im false]))
    (b_one (z_ret (x_cmp (or_eq hr) (x_var 8) (x_var 2)))))))) rfl⟩
/-! ### are_apart -/
def g_are_apart_L1 : Gs := gSeqS (gIfS (gTest (gDIn false 1 (gVar 3))) (gRet (gC (.bool false))) (gNext)) (gDPut 1 (gC (.bool true)) (gVar 3))
def g_are_apart_L2 : Gs := gFor (gSeq (gVar 2)) (tgN 3) g_are_apart_L1
def g_are_apart : Gs := gSeqS (gSet 1 (gDNew)) (gSeqS (gFor (gSeq (gVar 0)) (tgN 2) g_are_apart_L2) (gRet (gC (.bool true))))
def f_are_apart : List Dt → O Dt := fnN 4 g_are_apart
theorem ok_are_apart (t : Tx K mg) : FnOk P w K mg base CX0 1 t.a_are_apart t.d_are_apart ["ways"] (spG K mg 1 f_are_apart) := by
  have nd : (["ways", "seen", "way", "moment"] : List Str).Nodup := by decide +kernel
  exact fn_okN t.F_are_apart (Δn := [.im false, .no, .no, .no]) sc_are_apart rfl rfl (by decide) fun cdv A outer s H E hr => ⟨_, BD.frm [.im false, .no, .no, .no] (Δb := kd0 1 4 false) (Δc := kd0 1 4 false)
    (b_cons ((z_setO 1 nd (x_dnew)).to [.im false, .own .dk true, .no, .no])
    (b_cons (z_for (n := 4) .never (i_seq (x_var 0)) (g_name 2 nd)
    ((b_one (z_for (n := 4) .never (i_seq (x_var 2)) (g_name 3 nd)
    ((b_cons (z_if (Δn := [.im false, .own .dk true, .im false, .im false]) (c_din 1 hr (x_var 3))
    (b_one (z_ret (x_bl)))
    ((b_nil).to [.im false, .own .dk true, .im false, .im false]))
    (b_one ((z_dput 1 hr (x_bl) (x_var 3)).to [.im false, .own .dk true, .im false, .im false]))).to [.im false, .own .dk true, .im false, .no]))).to [.im false, .own .dk true, .no, .no]))
    (b_one (z_ret (x_bl))))) rfl⟩
/-! ### many_ways -/
def g_many_ways : Gs := gSeqS (gIfS (gOr (gNot (gTest (gUn (hIsa .list) (gVar 3)))) (gNot (gTest (gCB hAll (gCons (gLc (gSeq (gVar 3)) (tgN 4) (gYes) (gUn (hIsa .list) (gVar 4))) (gNil)))))) (gRaise "NoPaper") (gNext)) (gSeqS (gIfS (gOr (gNot (gTest (gCallN 1 f_are_apart (gCons (gVar 3) (gNil))))) (gNot (gTest (gCB hAll (gCons (gLc (gSeq (gVar 3)) (tgN 4) (gYes) (gCallN 4 f_way_right (gCons (gVar 0) (gCons (gVar 1) (gCons (gVar 2) (gCons (gVar 4) (gNil))))))) (gNil)))))) (gRaise "NoPaper") (gNext)) (gRet (gCB hLen (gCons (gVar 3) (gNil)))))
def f_many_ways : List Dt → O Dt := fnNX 5 g_many_ways
theorem ok_many_ways (t : Tx K mg) : FnOk P w K mg base (L2.CX P w) 2 t.a_many_ways t.d_many_ways ["record", "a", "b", "ways"] (spG K mg 4 f_many_ways) := by
  have G_are_apart := ok_are_apart (P := P) (w := w) (base := base) t
  have G_way_right := ok_way_right (P := P) (w := w) (base := base) t
  have nd : (["record", "a", "b", "ways", "way"] : List Str).Nodup := by decide +kernel
  exact fn_okNX t.F_many_ways (Δn := [.im false, .im false, .im false, .im false, .no]) sc_many_ways rfl rfl (by decide) fun cdv A outer s H E hr tk hp => ⟨_, BD.frm [.im false, .im false, .im false, .im false, .no] (Δb := kd0 4 5 false) (Δc := kd0 4 5 false)
    (b_cons (z_if (Δn := [.im false, .im false, .im false, .im false, .no]) (c_w (w_or (c_not (c_val (x_isa .list t.n_isinstance t.n_list (x_var 3)))) (w_or1 (c_not (c_val (x_all t.n_all (AD.to true true (a_cons ((x_lc (n := 5) [("way", 4)] nd (i_seq (x_var 3)) (blk_fx (N := ["record", "a", "b", "ways", "way"]) (sc := defScope st_many_ways) (by decide +kernel)) (fun _ _ _ _ _ => g_name 4 nd) (fun _ _ _ _ _ => t_nil) (fun _ _ _ _ _ => x_isa .list t.n_isinstance t.n_list (x_var 4))).nv) (a_nil)))))))))
    (b_one (z_raise0 tk t.E_NoPaper t.Q_NoPaper))
    ((b_nil).to [.im false, .im false, .im false, .im false, .no]))
    (b_cons (z_if (Δn := [.im false, .im false, .im false, .im false, .no]) (c_w (w_or (c_not (c_val (x_callN G_are_apart (hr.mono (by decide)) t.m_are_apart t.F_are_apart.kp t.b_are_apart pass0 (AD.to true false (a_cons (x_var 3) (a_nil)))))) (w_or1 (c_not (c_val (x_all t.n_all (AD.to true true (a_cons ((x_lc (n := 5) [("way", 4)] nd (i_seq (x_var 3)) (blk_fx (N := ["record", "a", "b", "ways", "way"]) (sc := defScope st_many_ways) (by decide +kernel)) (fun _ _ _ _ _ => g_name 4 nd) (fun _ _ _ _ _ => t_nil) (fun _ _ _ _ _ => x_callN G_way_right (hr.mono (by decide)) t.m_way_right t.F_way_right.kp t.b_way_right pass0 (AD.to true false (a_cons (x_var 0) (a_cons (x_var 1) (a_cons (x_var 2) (a_cons (x_var 4) (a_nil)))))))).nv) (a_nil)))))))))
    (b_one (z_raise0 tk t.E_NoPaper t.Q_NoPaper))
    ((b_nil).to [.im false, .im false, .im false, .im false, .no]))
    (b_one (z_ret (x_len t.n_len (AD.to true false (a_cons (x_var 3) (a_nil)))))))) rfl⟩
/-! ### is_side -/
def g_is_side : Gs := gSeqS (gIfS (gOr (gNot (gTest (gUn (hIsa .tuple) (gVar 1)))) (gNot (gTest (gCB hAll (gCons (gLc (gSeq (gVar 1)) (tgN 2) (gYes) (gCallN 2 f_is_place (gCons (gVar 0) (gCons (gVar 2) (gNil))))) (gNil)))))) (gRet (gC (.bool false))) (gNext)) (gRet (gCB hAll (gCons (gLc (gRng2 (gCons (gC (.int (1))) (gCons (gCB hLen (gCons (gVar 1) (gNil))) (gNil)))) (tgN 3) (gYes) (gOp hLt (gOp hIx (gVar 1) (gOp hSub (gVar 3) (gC (.int (1))))) (gOp hIx (gVar 1) (gVar 3)))) (gNil))))
def f_is_side : List Dt → O Dt := fnN 4 g_is_side
theorem ok_is_side (t : Tx K mg) : FnOk P w K mg base CX0 3 t.a_is_side t.d_is_side ["n", "side"] (spG K mg 2 f_is_side) := by
  have G_is_place := ok_is_place (P := P) (w := w) (base := base) t
  have nd : (["n", "side", "place", "at"] : List Str).Nodup := by decide +kernel
  exact fn_okN t.F_is_side (Δn := [.im false, .im false, .no, .no]) sc_is_side rfl rfl (by decide) fun cdv A outer s H E hr => ⟨_, BD.frm [.im false, .im false, .no, .no] (Δb := kd0 2 4 false) (Δc := kd0 2 4 false)
    (b_cons (z_if (Δn := [.im false, .im false, .no, .no]) (c_w (w_or (c_not (c_val (x_isa .tuple t.n_isinstance t.n_tuple (x_var 1)))) (w_or1 (c_not (c_val (x_all t.n_all (AD.to true true (a_cons ((x_lc (n := 4) [("place", 2)] nd (i_seq (x_var 1)) (blk_fx (N := ["n", "side", "place", "at"]) (sc := defScope st_is_side) (by decide +kernel)) (fun _ _ _ _ _ => g_name 2 nd) (fun _ _ _ _ _ => t_nil) (fun _ _ _ _ _ => x_callN G_is_place (hr.mono (by decide)) t.m_is_place t.F_is_place.kp t.b_is_place pass0 (AD.to true false (a_cons (x_var 0) (a_cons (x_var 2) (a_nil)))))).nv) (a_nil)))))))))
    (b_one (z_ret (x_bl)))
    ((b_nil).to [.im false, .im false, .no, .no]))
    (b_one (z_ret (x_all t.n_all (AD.to true true (a_cons ((x_lc (n := 4) [("at", 3)] nd (i_rng2 t.n_range (AD.to true true (a_cons (x_int) (a_cons (x_len t.n_len (AD.to true false (a_cons (x_var 1) (a_nil)))) (a_nil))))) (blk_fx (N := ["n", "side", "place", "at"]) (sc := defScope st_is_side) (by decide +kernel)) (fun _ _ _ _ _ => g_name 3 nd) (fun _ _ _ _ _ => t_nil) (fun _ _ _ _ _ => x_cmp or_lt (x_ix (x_var 1) (x_sub (x_var 3) (x_int))) (x_ix (x_var 1) (x_var 3)))).nv) (a_nil))))))) rfl⟩
/-! ### judged_pair -/
def g_judged_pair : Gs := gSeqS (gAsg (gVar 2) (tgT (tgCons (tgN 3) (tgCons (tgN 4) (tgCons (tgN 5) (tgCons (tgN 6) (tgCons (tgN 7) (tgNil)))))))) (gSeqS (gIfS (gOr (gNot (gTest (gCallN 2 f_is_place (gCons (gVar 0) (gCons (gVar 4) (gNil)))))) (gOr (gNot (gTest (gCallN 2 f_is_place (gCons (gVar 0) (gCons (gVar 5) (gNil)))))) (gOr (gTest (gOp hEq (gVar 4) (gVar 5))) (gOr (gNot (gTest (gCallN 1 f_is_whole (gCons (gVar 6) (gNil))))) (gTest (gOp hLt (gVar 6) (gC (.int (0))))))))) (gRaise "NoPaper") (gNext)) (gSeqS (gIfS (gTest (gOp hEq (gVar 3) (gC (.str "ways")))) (gRet (gTup (gCons (gC (.str "at least")) (gCons (gCallX 4 f_many_ways (gCons (gCallN 2 f_since (gCons (gVar 1) (gCons (gVar 6) (gNil)))) (gCons (gVar 4) (gCons (gVar 5) (gCons (gVar 7) (gNil)))))) (gNil))))) (gNext)) (gSeqS (gIfS (gOr (gTest (gOp hNe (gVar 3) (gC (.str "side")))) (gOr (gNot (gTest (gCallN 2 f_is_side (gCons (gVar 0) (gCons (gVar 7) (gNil)))))) (gOr (gTest (gOp hNotIn (gVar 4) (gVar 7))) (gTest (gOp hIn (gVar 5) (gVar 7)))))) (gRaise "NoPaper") (gNext)) (gRet (gTup (gCons (gC (.str "at most")) (gCons (gCB hLen (gCons (gCallN 2 f_rim (gCons (gCallN 2 f_since (gCons (gVar 1) (gCons (gVar 6) (gNil)))) (gCons (gVar 7) (gNil)))) (gNil))) (gNil))))))))
def f_judged_pair : List Dt → O Dt := fnNX 8 g_judged_pair
theorem ok_judged_pair (t : Tx K mg) : FnOk P w K mg base (L2.CX P w) 4 t.a_judged_pair t.d_judged_pair ["n", "record", "paper"] (spG K mg 3 f_judged_pair) := by
  have G_is_place := ok_is_place (P := P) (w := w) (base := base) t
  have G_is_whole := ok_is_whole (P := P) (w := w) (base := base) t
  have G_many_ways := ok_many_ways (P := P) (w := w) (base := base) t
  have G_since := ok_since (P := P) (w := w) (base := base) t
  have G_is_side := ok_is_side (P := P) (w := w) (base := base) t
  have G_rim := ok_rim (P := P) (w := w) (base := base) t
  have nd : (["n", "record", "paper", "word", "a", "b", "t", "shown"] : List Str).Nodup := by decide +kernel
  exact fn_okNX t.F_judged_pair (Δn := [.im false, .im false, .im false, .no, .no, .no, .no, .no]) sc_judged_pair rfl rfl (by decide) fun cdv A outer s H E hr tk hp => ⟨_, BD.frm [.im false, .im false, .im false, .no, .no, .no, .no, .no] (Δb := kd0 3 8 false) (Δc := kd0 3 8 false)
    (b_cons ((z_asg (n := 8) (x_var 2) (g_tup (m := 5) rfl (g_cons (g_name 3 nd) (g_cons (g_name 4 nd) (g_cons (g_name 5 nd) (g_cons (g_name 6 nd) (g_cons (g_name 7 nd) (g_nil)))))) (tgCons_len (tgCons_len (tgCons_len (tgCons_len (tgCons_len tgNil_len))))))).to [.im false, .im false, .im false, .im false, .im false, .im false, .im false, .im false])
    (b_cons (z_if (Δn := [.im false, .im false, .im false, .im false, .im false, .im false, .im false, .im false]) (c_w (w_or (c_not (c_val (x_callN G_is_place (hr.mono (by decide)) t.m_is_place t.F_is_place.kp t.b_is_place pass0 (AD.to true false (a_cons (x_var 0) (a_cons (x_var 4) (a_nil))))))) (w_or (c_not (c_val (x_callN G_is_place (hr.mono (by decide)) t.m_is_place t.F_is_place.kp t.b_is_place pass0 (AD.to true false (a_cons (x_var 0) (a_cons (x_var 5) (a_nil))))))) (w_or (c_cmp (or_eq hr) (x_var 4) (x_var 5)) (w_or (c_not (c_val (x_callN G_is_whole (hr.mono (by decide)) t.m_is_whole t.F_is_whole.kp t.b_is_whole pass0 (AD.to true false (a_cons (x_var 6) (a_nil)))))) (w_or1 (c_cmp or_lt (x_var 6) (x_int))))))))
    (b_one (z_raise0 tk t.E_NoPaper t.Q_NoPaper))
    ((b_nil).to [.im false, .im false, .im false, .im false, .im false, .im false, .im false, .im false]))
    (b_cons (z_if (Δn := [.im false, .im false, .im false, .im false, .im false, .im false, .im false, .im false]) (c_cmp (or_eq hr) (x_var 3) (x_str))
    (b_one (z_ret (x_tup (AD.to true true (a_cons (x_str) (a_cons (x_callXN tk G_many_ways (hr.mono (by decide)) t.m_many_ways t.F_many_ways.kp t.b_many_ways (AD.to true false (a_cons ((x_callL G_since (hr.mono (by decide)) t.m_since t.F_since.kp t.b_since pass0 (AD.to true false (a_cons (x_var 1) (a_cons (x_var 6) (a_nil))))).nv) (a_cons (x_var 4) (a_cons (x_var 5) (a_cons (x_var 7) (a_nil))))))) (a_nil)))))))
    ((b_nil).to [.im false, .im false, .im false, .im false, .im false, .im false, .im false, .im false]))
    (b_cons (z_if (Δn := [.im false, .im false, .im false, .im false, .im false, .im false, .im false, .im false]) (c_w (w_or (c_cmp (or_ne hr) (x_var 3) (x_str)) (w_or (c_not (c_val (x_callN G_is_side (hr.mono (by decide)) t.m_is_side t.F_is_side.kp t.b_is_side pass0 (AD.to true false (a_cons (x_var 0) (a_cons (x_var 7) (a_nil))))))) (w_or (c_cmp (or_notIn hr) (x_var 4) (x_var 7)) (w_or1 (c_cmp (or_in hr) (x_var 5) (x_var 7)))))))
    (b_one (z_raise0 tk t.E_NoPaper t.Q_NoPaper))
    ((b_nil).to [.im false, .im false, .im false, .im false, .im false, .im false, .im false, .im false]))
    (b_one (z_ret (x_tup (AD.to true true (a_cons (x_str) (a_cons (x_len t.n_len (AD.to true true (a_cons ((x_callL G_rim (hr.mono (by decide)) t.m_rim t.F_rim.kp t.b_rim pass0 (AD.to true false (a_cons ((x_callL G_since (hr.mono (by decide)) t.m_since t.F_since.kp t.b_since pass0 (AD.to true false (a_cons (x_var 1) (a_cons (x_var 6) (a_nil))))).nv) (a_cons (x_var 7) (a_nil))))).nv) (a_nil)))) (a_nil))))))))))) rfl⟩
/-! ### judged_out -/
def g_judged_out_L1 : Gs := gIfS (gAnd (gTest (gOp hEq (gOp hIx (gVar 5) (gC (.int (0)))) (gVar 3))) (gTest (gOp hNe (gOp hIx (gVar 5) (gC (.int (1)))) (gOp hIx (gVar 5) (gC (.int (2))))))) (gRet (gTup (gCons (gC (.str "out")) (gCons (gCallX 4 f_many_ways (gCons (gCallN 2 f_since (gCons (gVar 0) (gCons (gOp hAdd (gVar 3) (gC (.int (1)))) (gNil)))) (gCons (gOp hIx (gVar 5) (gC (.int (1)))) (gCons (gOp hIx (gVar 5) (gC (.int (2)))) (gCons (gVar 4) (gNil)))))) (gNil))))) (gNext)
def g_judged_out : Gs := gSeqS (gAsg (gVar 1) (tgT (tgCons (tgN 2) (tgCons (tgN 3) (tgCons (tgN 4) (tgNil)))))) (gSeqS (gIfS (gOr (gTest (gOp hNe (gVar 2) (gC (.str "out")))) (gNot (gTest (gCallN 1 f_is_whole (gCons (gVar 3) (gNil)))))) (gRaise "NoPaper") (gNext)) (gSeqS (gFor (gSeq (gVar 0)) (tgN 5) g_judged_out_L1) (gRaise "NoPaper")))
def f_judged_out : List Dt → O Dt := fnNX 6 g_judged_out
theorem ok_judged_out (t : Tx K mg) : FnOk P w K mg base (L2.CX P w) 3 t.a_judged_out t.d_judged_out ["record", "paper"] (spG K mg 2 f_judged_out) := by
  have G_is_whole := ok_is_whole (P := P) (w := w) (base := base) t
  have G_many_ways := ok_many_ways (P := P) (w := w) (base := base) t
  have G_since := ok_since (P := P) (w := w) (base := base) t
  have nd : (["record", "paper", "word", "moment", "ways", "tie"] : List Str).Nodup := by decide +kernel
  exact fn_okNX t.F_judged_out (Δn := [.im false, .im false, .no, .no, .no, .no]) sc_judged_out rfl rfl (by decide) fun cdv A outer s H E hr tk hp => ⟨_, BD.frm [.im false, .im false, .no, .no, .no, .no] (Δb := kd0 2 6 false) (Δc := kd0 2 6 false)
    (b_cons ((z_asg (n := 6) (x_var 1) (g_tup (m := 3) rfl (g_cons (g_name 2 nd) (g_cons (g_name 3 nd) (g_cons (g_name 4 nd) (g_nil)))) (tgCons_len (tgCons_len (tgCons_len tgNil_len))))).to [.im false, .im false, .im false, .im false, .im false, .no])
    (b_cons (z_if (Δn := [.im false, .im false, .im false, .im false, .im false, .no]) (c_w (w_or (c_cmp (or_ne hr) (x_var 2) (x_str)) (w_or1 (c_not (c_val (x_callN G_is_whole (hr.mono (by decide)) t.m_is_whole t.F_is_whole.kp t.b_is_whole pass0 (AD.to true false (a_cons (x_var 3) (a_nil)))))))))
    (b_one (z_raise0 tk t.E_NoPaper t.Q_NoPaper))
    ((b_nil).to [.im false, .im false, .im false, .im false, .im false, .no]))
    (b_cons (z_for (n := 6) hp (i_seq (x_var 0)) (g_name 5 nd)
    ((b_one (z_if (Δn := [.im false, .im false, .im false, .im false, .im false, .im false]) (c_w (w_and (c_cmp (or_eq hr) (x_ix (x_var 5) (x_int)) (x_var 3)) (w_and1 (c_cmp (or_ne hr) (x_ix (x_var 5) (x_int)) (x_ix (x_var 5) (x_int))))))
    (b_one (z_ret (x_tup (AD.to true true (a_cons (x_str) (a_cons (x_callXN tk G_many_ways (hr.mono (by decide)) t.m_many_ways t.F_many_ways.kp t.b_many_ways (AD.to true false (a_cons ((x_callL G_since (hr.mono (by decide)) t.m_since t.F_since.kp t.b_since pass0 (AD.to true false (a_cons (x_var 0) (a_cons (x_add (x_var 3) (x_int)) (a_nil))))).nv) (a_cons (x_ix (x_var 5) (x_int)) (a_cons (x_ix (x_var 5) (x_int)) (a_cons (x_var 4) (a_nil))))))) (a_nil)))))))
    ((b_nil).to [.im false, .im false, .im false, .im false, .im false, .im false]))).to [.im false, .im false, .im false, .im false, .im false, .no]))
    (b_one (z_raise0 tk t.E_NoPaper t.Q_NoPaper))))) rfl⟩
/-! ### judged -/
def g_judged : Gs := gSeqS (gIfS (gTest (gOp hEq (gCB hLen (gCons (gVar 2) (gNil))) (gC (.int (5))))) (gRet (gCallX 3 f_judged_pair (gCons (gVar 0) (gCons (gVar 1) (gCons (gVar 2) (gNil)))))) (gNext)) (gSeqS (gIfS (gTest (gOp hEq (gCB hLen (gCons (gVar 2) (gNil))) (gC (.int (3))))) (gRet (gCallX 2 f_judged_out (gCons (gVar 1) (gCons (gVar 2) (gNil))))) (gNext)) (gRaise "NoPaper"))
def f_judged : List Dt → O Dt := fnNX 3 g_judged
theorem ok_judged (t : Tx K mg) : FnOk P w K mg base (L2.CX P w) 5 t.a_judged t.d_judged ["n", "record", "paper"] (spG K mg 3 f_judged) := by
  have G_judged_pair := ok_judged_pair (P := P) (w := w) (base := base) t
  have G_judged_out := ok_judged_out (P := P) (w := w) (base := base) t
  have nd : (["n", "record", "paper"] : List Str).Nodup := by decide +kernel
  exact fn_okNX t.F_judged (Δn := [.im false, .im false, .im false]) sc_judged rfl rfl (by decide) fun cdv A outer s H E hr tk hp => ⟨_, BD.frm [.im false, .im false, .im false] (Δb := kd0 3 3 false) (Δc := kd0 3 3 false)
    (b_cons (z_if (Δn := [.im false, .im false, .im false]) (c_cmp (or_eq hr) (x_len t.n_len (AD.to true false (a_cons (x_var 2) (a_nil)))) (x_int))
    (b_one (z_ret (x_callXN tk G_judged_pair (hr.mono (by decide)) t.m_judged_pair t.F_judged_pair.kp t.b_judged_pair (AD.to true false (a_cons (x_var 0) (a_cons (x_var 1) (a_cons (x_var 2) (a_nil))))))))
    ((b_nil).to [.im false, .im false, .im false]))
    (b_cons (z_if (Δn := [.im false, .im false, .im false]) (c_cmp (or_eq hr) (x_len t.n_len (AD.to true false (a_cons (x_var 2) (a_nil)))) (x_int))
    (b_one (z_ret (x_callXN tk G_judged_out (hr.mono (by decide)) t.m_judged_out t.F_judged_out.kp t.b_judged_out (AD.to true false (a_cons (x_var 1) (a_cons (x_var 2) (a_nil)))))))
    ((b_nil).to [.im false, .im false, .im false]))
    (b_one (z_raise0 tk t.E_NoPaper t.Q_NoPaper)))) rfl⟩
/-! ### _law_mixed -/
abbrev g_l_mixed : Gs := FamA.g_l_mixed
abbrev f_l_mixed : List Dt → O Dt := FamA.f_l_mixed
theorem ok_l_mixed (t : Tx K mg) : FnOk P w K mg base CX0 1 t.a_l_mixed t.d_l_mixed ["cell", "k"] (spG K mg 2 f_l_mixed) := by
  have nd : (["cell", "k", "number"] : List Str).Nodup := by decide +kernel
  exact fn_okN t.F_l_mixed (Δn := [.im false, .im false, .no]) sc_l_mixed rfl rfl (by decide) fun cdv A outer s H E hr => ⟨_, BD.frm [.im false, .im false, .no] (Δb := kd0 2 3 false) (Δc := kd0 2 3 false)
    (b_cons ((z_set 2 nd (x_mod (x_mul (x_add (x_add (x_mod (x_var 0) (x_int)) (x_mul (x_int) (x_var 1))) (x_int)) (x_int)) (x_int))).to [.im false, .im false, .im true])
    (b_cons ((z_set 2 nd (x_mod (x_add (x_mod (x_mul (x_var 2) (x_var 2)) (x_int)) (x_mul (x_int) (x_var 1))) (x_int))).to [.im false, .im false, .im true])
    (b_one (z_ret (x_mod (x_mul (x_var 2) (x_int)) (x_int)))))) rfl⟩
/-! ### _law_numbers -/
abbrev g_l_numbers : Gs := FamA.g_l_numbers
abbrev f_l_numbers : List Dt → O Dt := FamA.f_l_numbers
theorem ok_l_numbers (t : Tx K mg) : FnOk P w K mg base CX0 2 t.a_l_numbers t.d_l_numbers ["cell", "many", "base"] (spL K mg 3 f_l_numbers) := by
  have G_l_mixed := ok_l_mixed (P := P) (w := w) (base := base) t
  have nd : (["cell", "many", "base", "found", "left", "k", "number", "turns"] : List Str).Nodup := by decide +kernel
  exact fn_okL t.F_l_numbers (Δn := [.im false, .im false, .im false, .no, .no, .no, .no, .no]) sc_l_numbers rfl rfl (by decide) fun cdv A outer s H E hr => ⟨_, BD.frm [.im false, .im false, .im false, .no, .no, .no, .no, .no] (Δb := kd0 3 8 false) (Δc := kd0 3 8 false)
    (b_cons ((z_setO 3 nd (x_lst (a_nil))).to [.im false, .im false, .im false, .own .l true, .no, .no, .no, .no])
    (b_cons ((z_set 4 nd (x_sub (x_var 0) (x_pow (x_int) (x_int)))).to [.im false, .im false, .im false, .own .l true, .im true, .no, .no, .no])
    (b_cons (z_for (n := 8) .never (i_rng1 t.n_range (AD.to true false (a_cons (x_var 1) (a_nil)))) (g_name 5 nd)
    ((b_cons ((z_set 6 nd (x_var 4)).to [.im false, .im false, .im false, .own .l true, .im true, .im true, .im true, .no])
    (b_cons (z_if (Δn := [.im false, .im false, .im false, .own .l true, .im true, .im true, .im true, .no]) (c_cmp or_gt (x_var 4) (x_int))
    ((b_one ((z_set 4 nd (x_div (x_var 4) (x_var 2))).to [.im false, .im false, .im false, .own .l true, .im true, .im true, .im true, .no])).to [.im false, .im false, .im false, .own .l true, .im true, .im true, .im true, .no])
    ((b_cons ((z_set 6 nd (x_int)).to [.im false, .im false, .im false, .own .l true, .im true, .im true, .im true, .no])
    (b_cons ((z_set 7 nd (x_int)).to [.im false, .im false, .im false, .own .l true, .im true, .im true, .im true, .im true])
    (b_one (z_while 100 .never (c_cmp or_lt (x_mul (x_var 7) (x_int)) (x_add (x_bits (x_var 2)) (x_int)))
    ((b_cons ((z_set 6 nd (x_add (x_mul (x_var 6) (x_int)) (x_callN G_l_mixed (hr.mono (by decide)) t.m_l_mixed t.F_l_mixed.kp t.b_l_mixed pass0 (AD.to true false (a_cons (x_var 0) (a_cons (x_add (x_mul (x_int) (x_var 5)) (x_var 7)) (a_nil))))))).to [.im false, .im false, .im false, .own .l true, .im true, .im true, .im true, .im true])
    (b_one ((z_set 7 nd (x_add (x_var 7) (x_int))).to [.im false, .im false, .im false, .own .l true, .im true, .im true, .im true, .im true]))).to [.im false, .im false, .im false, .own .l true, .im true, .im true, .im true, .im true]))))).to [.im false, .im false, .im false, .own .l true, .im true, .im true, .im true, .no]))
    (b_one ((z_app 3 (x_mod (x_var 6) (x_var 2))).to [.im false, .im false, .im false, .own .l true, .im true, .im true, .im true, .no])))).to [.im false, .im false, .im false, .own .l true, .im true, .no, .no, .no]))
    (b_one (z_retO 3))))) rfl⟩
/-! ### _law_ends -/
abbrev g_l_ends : Gs := FamA.g_l_ends
abbrev f_l_ends : List Dt → O Dt := FamA.f_l_ends
theorem ok_l_ends (t : Tx K mg) : FnOk P w K mg base CX0 1 t.a_l_ends t.d_l_ends ["n", "kind", "one", "other"] (spG K mg 4 f_l_ends) := by
  have nd : (["n", "kind", "one", "other", "a"] : List Str).Nodup := by decide +kernel
  exact fn_okN t.F_l_ends (Δn := [.im false, .im false, .im false, .im false, .no]) sc_l_ends rfl rfl (by decide) fun cdv A outer s H E hr => ⟨_, BD.frm [.im false, .im false, .im false, .im false, .no] (Δb := kd0 4 5 false) (Δc := kd0 4 5 false)
    (b_cons ((z_set 4 nd (x_mod (x_var 2) (x_var 0))).to [.im false, .im false, .im false, .im false, .im true])
    (b_cons (z_if (Δn := [.im false, .im false, .im false, .im false, .im true]) (c_cmp (or_eq hr) (x_var 1) (x_int))
    (b_one (z_ret (x_tup (AD.to true true (a_cons (x_var 4) (a_cons (x_mod (x_var 3) (x_var 0)) (a_nil)))))))
    ((b_nil).to [.im false, .im false, .im false, .im false, .im true]))
    (b_cons (z_if (Δn := [.im false, .im false, .im false, .im false, .im true]) (c_cmp (or_eq hr) (x_var 1) (x_int))
    (b_one (z_ret (x_tup (AD.to true true (a_cons (x_mod (x_var 2) (x_min2 t.n_min (AD.to true false (a_cons (x_var 0) (a_cons (x_int) (a_nil)))))) (a_cons (x_mod (x_var 3) (x_min2 t.n_min (AD.to true false (a_cons (x_var 0) (a_cons (x_int) (a_nil)))))) (a_nil)))))))
    ((b_nil).to [.im false, .im false, .im false, .im false, .im true]))
    (b_cons (z_if (Δn := [.im false, .im false, .im false, .im false, .im true]) (c_cmp (or_eq hr) (x_var 1) (x_int))
    (b_one (z_ret (x_tup (AD.to true true (a_cons (x_var 4) (a_cons (x_mod (x_add (x_add (x_var 4) (x_int)) (x_div (x_mod (x_var 3) (x_int)) (x_int))) (x_var 0)) (a_nil)))))))
    ((b_nil).to [.im false, .im false, .im false, .im false, .im true]))
    (b_one (z_ret (x_tup (AD.to true true (a_cons (x_var 4) (a_cons (x_mod (x_add (x_var 4) (x_mul (x_int) (x_mod (x_var 3) (x_var 0)))) (x_var 0)) (a_nil))))))))))) rfl⟩
/-! ### _law_record -/
abbrev g_l_record : Gs := FamA.g_l_record
abbrev f_l_record : List Dt → O Dt := FamA.f_l_record
theorem ok_l_record (t : Tx K mg) : FnOk P w K mg base CX0 2 t.a_l_record t.d_l_record ["numbers", "most"] (spG K mg 2 f_l_record) := by
  have G_l_ends := ok_l_ends (P := P) (w := w) (base := base) t
  have nd : (["numbers", "most", "n", "many", "wide", "moment", "record", "k", "a", "b"] : List Str).Nodup := by decide +kernel
  exact fn_okN t.F_l_record (Δn := [.im false, .im false, .no, .no, .no, .no, .no, .no, .no, .no]) sc_l_record rfl rfl (by decide) fun cdv A outer s H E hr => ⟨_, BD.frm [.im false, .im false, .no, .no, .no, .no, .no, .no, .no, .no] (Δb := kd0 2 10 false) (Δc := kd0 2 10 false)
    (b_cons ((z_set 2 nd (x_add (x_int) (x_mod (x_ix (x_var 0) (x_int)) (x_int)))).to [.im false, .im false, .im true, .no, .no, .no, .no, .no, .no, .no])
    (b_cons (z_if (Δn := [.im false, .im false, .im true, .no, .no, .no, .no, .no, .no, .no]) (c_cmp (or_eq hr) (x_mod (x_div (x_ix (x_var 0) (x_int)) (x_int)) (x_int)) (x_int))
    ((b_one ((z_set 2 nd (x_add (x_int) (x_mod (x_div (x_ix (x_var 0) (x_int)) (x_int)) (x_int)))).to [.im false, .im false, .im true, .no, .no, .no, .no, .no, .no, .no])).to [.im false, .im false, .im true, .no, .no, .no, .no, .no, .no, .no])
    ((b_nil).to [.im false, .im false, .im true, .no, .no, .no, .no, .no, .no, .no]))
    (b_cons ((z_set 3 nd (x_mod (x_ix (x_var 0) (x_int)) (x_int))).to [.im false, .im false, .im true, .im true, .no, .no, .no, .no, .no, .no])
    (b_cons (z_if (Δn := [.im false, .im false, .im true, .im true, .no, .no, .no, .no, .no, .no]) (c_cmp (or_eq hr) (x_mod (x_div (x_ix (x_var 0) (x_int)) (x_int)) (x_int)) (x_int))
    ((b_one ((z_set 3 nd (x_add (x_int) (x_mod (x_div (x_ix (x_var 0) (x_int)) (x_int)) (x_int)))).to [.im false, .im false, .im true, .im true, .no, .no, .no, .no, .no, .no])).to [.im false, .im false, .im true, .im true, .no, .no, .no, .no, .no, .no])
    ((b_nil).to [.im false, .im false, .im true, .im true, .no, .no, .no, .no, .no, .no]))
    (b_cons ((z_set 4 nd (x_ix ((x_lst (AD.to true true (a_cons (x_int) (a_cons (x_int) (a_cons (x_pow (x_int) (x_int)) (a_nil)))))).nv) (x_mod (x_ix (x_var 0) (x_int)) (x_int)))).to [.im false, .im false, .im true, .im true, .im true, .no, .no, .no, .no, .no])
    (b_cons ((z_set 5 nd (x_ix ((x_lst (AD.to true true (a_cons (x_int) (a_cons (x_mod (x_div (x_ix (x_var 0) (x_int)) (x_int)) (x_int)) (a_cons (x_mod (x_ix (x_var 0) (x_int)) (x_pow (x_int) (x_int))) (a_nil)))))).nv) (x_mod (x_div (x_ix (x_var 0) (x_int)) (x_int)) (x_int)))).to [.im false, .im false, .im true, .im true, .im true, .im true, .no, .no, .no, .no])
    (b_cons ((z_setO 6 nd (x_lst (a_nil))).to [.im false, .im false, .im true, .im true, .im true, .im true, .own .l true, .no, .no, .no])
    (b_cons (z_for (n := 10) .never (i_rng1 t.n_range (AD.to true true (a_cons (x_min3 t.n_min (AD.to true false (a_cons (x_var 3) (a_cons (x_var 1) (a_cons (x_div (x_sub (x_len t.n_len (AD.to true false (a_cons (x_var 0) (a_nil)))) (x_int)) (x_int)) (a_nil)))))) (a_nil)))) (g_name 7 nd)
    ((b_cons ((z_asg (n := 10) (x_callN G_l_ends (hr.mono (by decide)) t.m_l_ends t.F_l_ends.kp t.b_l_ends pass0 (AD.to true false (a_cons (x_var 2) (a_cons (x_mod (x_ix (x_var 0) (x_int)) (x_int)) (a_cons (x_ix (x_var 0) (x_add (x_int) (x_mul (x_int) (x_var 7)))) (a_cons (x_ix (x_var 0) (x_add (x_int) (x_mul (x_int) (x_var 7)))) (a_nil))))))) (g_tup (m := 2) rfl (g_cons (g_name 8 nd) (g_cons (g_name 9 nd) (g_nil))) (tgCons_len (tgCons_len tgNil_len)))).to [.im false, .im false, .im true, .im true, .im true, .im true, .own .l true, .im true, .im true, .im true])
    (b_cons ((z_app 6 (x_tup (AD.to true true (a_cons (x_var 5) (a_cons (x_min2 t.n_min (AD.to true true (a_cons (x_var 8) (a_cons (x_var 9) (a_nil))))) (a_cons (x_max2 t.n_max (AD.to true true (a_cons (x_var 8) (a_cons (x_var 9) (a_nil))))) (a_nil))))))).to [.im false, .im false, .im true, .im true, .im true, .im true, .own .l true, .im true, .im true, .im true])
    (b_one ((z_set 5 nd (x_add (x_add (x_var 5) (x_int)) (x_mod (x_ix (x_var 0) (x_add (x_int) (x_mul (x_int) (x_var 7)))) (x_var 4)))).to [.im false, .im false, .im true, .im true, .im true, .im true, .own .l true, .im true, .im true, .im true])))).to [.im false, .im false, .im true, .im true, .im true, .im true, .own .l true, .no, .no, .no]))
    (b_one (z_ret (x_tup (AD.to false true (a_cons (x_var 2) (a_cons ((x_own 6).ov) (a_nil))))))))))))))) rfl⟩
/-! ### _law_great -/
def g_l_great : Gs := gSeqS (gIfS (gTest (gOp hNe (gOp hMod (gVar 1) (gC (.int (4)))) (gC (.int (1))))) (gRet (gVar 0)) (gNext)) (gRet (gOp hCat (gOp hCat (gSl hSl (gVar 0) (gNoPart) (gPart (gC (.int (1))))) (gLst (gCons (gOp hAdd (gC (.int (13))) (gOp hMul (gC (.int (104))) (gOp hAdd (gC (.int (28))) (gOp hMod (gOp hDiv (gVar 1) (gC (.int (4)))) (gC (.int (20))))))) (gNil)))) (gSl hSl (gVar 0) (gPart (gC (.int (2)))) (gNoPart))))
def f_l_great : List Dt → O Dt := fnN 2 g_l_great
theorem ok_l_great (t : Tx K mg) : FnOk P w K mg base CX0 1 t.a_l_great t.d_l_great ["numbers", "number"] (spA K mg 2 f_l_great) := by
  have nd : (["numbers", "number"] : List Str).Nodup := by decide +kernel
  exact fn_okA t.F_l_great (Δn := [.im true, .im true]) sc_l_great rfl rfl (by decide) fun cdv A outer s H E hr => ⟨_, BD.frm [.im true, .im true] (Δb := kd0 2 2 true) (Δc := kd0 2 2 true)
    (b_cons (z_if (Δn := [.im true, .im true]) (c_cmp (or_ne hr) (x_mod (x_var 1) (x_int)) (x_int))
    (b_one (z_ret (x_var 0)))
    ((b_nil).to [.im true, .im true]))
    (b_one (z_ret ((PD.wkN true (x_cat ((PD.wkN true (x_cat ((x_sl (x_var 0) (o_none) (o_some (x_int))).nv) ((x_lst (AD.to true true (a_cons (x_add (x_int) (x_mul (x_int) (x_add (x_int) (x_mod (x_div (x_var 1) (x_int)) (x_int))))) (a_nil)))).nv))).nv) ((x_sl (x_var 0) (o_some (x_int)) (o_none)).nv))).nv)))) rfl⟩
/-! ### _law_went -/
def g_l_went_L1 : Gs := gSeqS (gSet 8 (gLc (gSeq (gVar 0)) (tgN 9) (gAnd (gTest (gOp hIn (gVar 6) (gSl hSlT (gVar 9) (gPart (gC (.int (1)))) (gNoPart)))) (gAnd (gTest (gOp hNe (gOp hIx (gVar 9) (gC (.int (1)))) (gOp hIx (gVar 9) (gC (.int (2)))))) (gTest (gOp hNotIn (gOp hIx (gVar 9) (gC (.int (0)))) (gOp hCat (gVar 5) (gVar 4)))))) (gVar 9))) (gIfS (gAnd (gTest (gOp hNe (gVar 8) (gLst (gNil)))) (gTest (gOp hNe (gVar 6) (gVar 2)))) (gSeqS (gAsg (gOp hIx (gVar 8) (gOp hMod (gVar 7) (gCB hLen (gCons (gVar 8) (gNil))))) (tgT (tgCons (tgN 10) (tgCons (tgN 11) (tgCons (tgN 12) (tgNil)))))) (gSeqS (gApp 5 (gVar 10)) (gSet 6 (gOp hSub (gOp hAdd (gVar 11) (gVar 12)) (gVar 6))))) (gNext))
def g_l_went : Gs := gSeqS (gSet 5 (gLst (gNil))) (gSeqS (gSet 6 (gVar 1)) (gSeqS (gFor (gSeq (gVar 3)) (tgN 7) g_l_went_L1) (gRet (gPurV 5))))
def f_l_went : List Dt → O Dt := fnL 13 g_l_went
theorem ok_l_went (t : Tx K mg) : FnOk P w K mg base CX0 1 t.a_l_went t.d_l_went ["ties", "a", "b", "numbers", "used"] (spL K mg 5 f_l_went) := by
  have nd : (["ties", "a", "b", "numbers", "used", "way", "place", "number", "near", "tie", "moment", "one", "other"] : List Str).Nodup := by decide +kernel
  exact fn_okL t.F_l_went (Δn := [.im false, .im false, .im false, .im false, .im false, .no, .no, .no, .no, .no, .no, .no, .no]) sc_l_went rfl rfl (by decide) fun cdv A outer s H E hr => ⟨_, BD.frm [.im false, .im false, .im false, .im false, .im false, .no, .no, .no, .no, .no, .no, .no, .no] (Δb := kd0 5 13 false) (Δc := kd0 5 13 false)
    (b_cons ((z_setO 5 nd (x_lst (a_nil))).to [.im false, .im false, .im false, .im false, .im false, .own .l true, .no, .no, .no, .no, .no, .no, .no])
    (b_cons ((z_set 6 nd (x_var 1)).to [.im false, .im false, .im false, .im false, .im false, .own .l true, .im false, .no, .no, .no, .no, .no, .no])
    (b_cons (SD.frm [.im false, .im false, .im false, .im false, .im false, .own .l false, .im false, .no, .no, .no, .no, .no, .no] (z_for (n := 13) .never (i_seq (x_var 3)) (g_name 7 nd)
    ((b_cons ((z_setLc 8 (n := 13) [("tie", 9)] nd (i_seq (x_var 0)) (blk_fx (N := ["ties", "a", "b", "numbers", "used", "way", "place", "number", "near", "tie", "moment", "one", "other"]) (sc := defScope st_l_went) (by decide +kernel)) (fun _ _ _ _ _ => g_name 9 nd) (fun _ _ _ _ _ => t_one (c_w (w_and (c_cmp (or_in hr) (x_var 6) (x_slT (x_var 9) (o_some (x_int)) (o_none))) (w_and (c_cmp (or_ne hr) (x_ix (x_var 9) (x_int)) (x_ix (x_var 9) (x_int))) (w_and1 (c_cmp (or_notIn hr) (x_ix (x_var 9) (x_int)) ((PD.wkN false (x_catO (x_own 5) (x_var 4))).nv))))))) (fun _ _ _ _ _ => x_var 9) (sw_true rfl rfl rfl (by decide +kernel))).to [.im false, .im false, .im false, .im false, .im false, .own .l false, .im false, .im false, .im false, .no, .no, .no, .no])
    (b_one (z_if (Δn := [.im false, .im false, .im false, .im false, .im false, .own .l false, .im false, .im false, .im false, .no, .no, .no, .no]) (c_w (w_and (c_cmp (or_ne hr) (x_var 8) ((x_lst (a_nil)).nv)) (w_and1 (c_cmp (or_ne hr) (x_var 6) (x_var 2)))))
    ((b_cons ((z_asg (n := 13) (x_ix (x_var 8) (x_mod (x_var 7) (x_len t.n_len (AD.to true false (a_cons (x_var 8) (a_nil)))))) (g_tup (m := 3) rfl (g_cons (g_name 10 nd) (g_cons (g_name 11 nd) (g_cons (g_name 12 nd) (g_nil)))) (tgCons_len (tgCons_len (tgCons_len tgNil_len))))).to [.im false, .im false, .im false, .im false, .im false, .own .l false, .im false, .im false, .im false, .no, .im false, .im false, .im false])
    (b_cons ((z_app 5 (x_var 10)).to [.im false, .im false, .im false, .im false, .im false, .own .l false, .im false, .im false, .im false, .no, .im false, .im false, .im false])
    (b_one ((z_set 6 nd (x_sub (x_add (x_var 11) (x_var 12)) (x_var 6))).to [.im false, .im false, .im false, .im false, .im false, .own .l false, .im true, .im false, .im false, .no, .im false, .im false, .im false])))).to [.im false, .im false, .im false, .im false, .im false, .own .l false, .im false, .im false, .im false, .no, .no, .no, .no])
    ((b_nil).to [.im false, .im false, .im false, .im false, .im false, .own .l false, .im false, .im false, .im false, .no, .no, .no, .no])))).to [.im false, .im false, .im false, .im false, .im false, .own .l false, .im false, .no, .no, .no, .no, .no, .no])))
    (b_one (z_retOp 5))))) rfl⟩
/-! ### _law_leads -/
def g_l_leads_L1 : Gs := gSeqS (gSet 6 (gLc (gSeq (gVar 0)) (tgN 7) (gAnd (gTest (gOp hEq (gOp hIx (gVar 7) (gC (.int (0)))) (gVar 5))) (gAnd (gTest (gOp hNe (gOp hIx (gVar 7) (gC (.int (1)))) (gOp hIx (gVar 7) (gC (.int (2)))))) (gTest (gOp hIn (gVar 4) (gSl hSlT (gVar 7) (gPart (gC (.int (1)))) (gNoPart)))))) (gVar 7))) (gSeqS (gIfS (gTest (gOp hEq (gVar 6) (gLst (gNil)))) (gRet (gC (.bool false))) (gNext)) (gSet 4 (gOp hSub (gOp hAdd (gOp hIx (gOp hIx (gVar 6) (gC (.int (0)))) (gC (.int (1)))) (gOp hIx (gOp hIx (gVar 6) (gC (.int (0)))) (gC (.int (2))))) (gVar 4))))
def g_l_leads : Gs := gSeqS (gSet 4 (gVar 1)) (gSeqS (gFor (gSeq (gVar 3)) (tgN 5) g_l_leads_L1) (gRet (gOp hEq (gVar 4) (gVar 2))))
def f_l_leads : List Dt → O Dt := fnN 8 g_l_leads
theorem ok_l_leads (t : Tx K mg) : FnOk P w K mg base CX0 1 t.a_l_leads t.d_l_leads ["ties", "a", "b", "way"] (spG K mg 4 f_l_leads) := by
  have nd : (["ties", "a", "b", "way", "place", "moment", "ends", "tie"] : List Str).Nodup := by decide +kernel
  exact fn_okN t.F_l_leads (Δn := [.im false, .im false, .im false, .im false, .no, .no, .no, .no]) sc_l_leads rfl rfl (by decide) fun cdv A outer s H E hr => ⟨_, BD.frm [.im false, .im false, .im false, .im false, .no, .no, .no, .no] (Δb := kd0 4 8 false) (Δc := kd0 4 8 false)
    (b_cons ((z_set 4 nd (x_var 1)).to [.im false, .im false, .im false, .im false, .im false, .no, .no, .no])
    (b_cons (z_for (n := 8) .never (i_seq (x_var 3)) (g_name 5 nd)
    ((b_cons ((z_setLc 6 (n := 8) [("tie", 7)] nd (i_seq (x_var 0)) (blk_fx (N := ["ties", "a", "b", "way", "place", "moment", "ends", "tie"]) (sc := defScope st_l_leads) (by decide +kernel)) (fun _ _ _ _ _ => g_name 7 nd) (fun _ _ _ _ _ => t_one (c_w (w_and (c_cmp (or_eq hr) (x_ix (x_var 7) (x_int)) (x_var 5)) (w_and (c_cmp (or_ne hr) (x_ix (x_var 7) (x_int)) (x_ix (x_var 7) (x_int))) (w_and1 (c_cmp (or_in hr) (x_var 4) (x_slT (x_var 7) (o_some (x_int)) (o_none)))))))) (fun _ _ _ _ _ => x_var 7) (sw_true rfl rfl rfl (by decide +kernel))).to [.im false, .im false, .im false, .im false, .im false, .im false, .im false, .no])
    (b_cons (z_if (Δn := [.im false, .im false, .im false, .im false, .im false, .im false, .im false, .no]) (c_cmp (or_eq hr) (x_var 6) ((x_lst (a_nil)).nv))
    (b_one (z_ret (x_bl)))
    ((b_nil).to [.im false, .im false, .im false, .im false, .im false, .im false, .im false, .no]))
    (b_one ((z_set 4 nd (x_sub (x_add (x_ix (x_ix (x_var 6) (x_int)) (x_int)) (x_ix (x_ix (x_var 6) (x_int)) (x_int))) (x_var 4))).to [.im false, .im false, .im false, .im false, .im true, .im false, .im false, .no])))).to [.im false, .im false, .im false, .im false, .im false, .no, .no, .no]))
    (b_one (z_ret (x_cmp (or_eq hr) (x_var 4) (x_var 2)))))) rfl⟩
/-! ### _law_apart -/
def g_l_apart_L1 : Gs := gExt 1 (gVar 2)
def g_l_apart : Gs := gSeqS (gSet 1 (gLst (gNil))) (gSeqS (gFor (gSeq (gVar 0)) (tgN 2) g_l_apart_L1) (gRet (gOp hEq (gUn hLenSet (gVar 1)) (gCB hLen (gCons (gVar 1) (gNil))))))
def f_l_apart : List Dt → O Dt := fnN 3 g_l_apart
theorem ok_l_apart (t : Tx K mg) : FnOk P w K mg base CX0 1 t.a_l_apart t.d_l_apart ["ways"] (spG K mg 1 f_l_apart) := by
  have nd : (["ways", "moments", "way"] : List Str).Nodup := by decide +kernel
  exact fn_okN t.F_l_apart (Δn := [.im false, .no, .no]) sc_l_apart rfl rfl (by decide) fun cdv A outer s H E hr => ⟨_, BD.frm [.im false, .no, .no] (Δb := kd0 1 3 false) (Δc := kd0 1 3 false)
    (b_cons ((z_setO 1 nd (x_lst (a_nil))).to [.im false, .own .l true, .no])
    (b_cons (SD.frm [.im false, .own .l false, .no] (z_for (n := 3) .never (i_seq (x_var 0)) (g_name 2 nd)
    ((b_one ((z_extV 1 (x_var 2)).to [.im false, .own .l false, .im false])).to [.im false, .own .l false, .no])))
    (b_one (z_ret (x_cmp (or_eq hr) (x_lenSet t.n_len t.n_set ((x_own 1).ov)) (x_len t.n_len (AD.to false false (a_cons ((x_own 1).ov) (a_nil))))))))) rfl⟩
/-! ### _law_ways_due -/
def g_l_ways_due : Gs := gSeqS (gIfS (gOr (gNot (gTest (gCallN 1 f_l_apart (gCons (gVar 3) (gNil))))) (gNot (gTest (gCB hAll (gCons (gLc (gSeq (gVar 3)) (tgN 4) (gYes) (gCallN 4 f_l_leads (gCons (gVar 0) (gCons (gVar 1) (gCons (gVar 2) (gCons (gVar 4) (gNil))))))) (gNil)))))) (gRet (gC .none)) (gNext)) (gRet (gCB hLen (gCons (gVar 3) (gNil))))
def f_l_ways_due : List Dt → O Dt := fnN 5 g_l_ways_due
theorem ok_l_ways_due (t : Tx K mg) : FnOk P w K mg base CX0 2 t.a_l_ways_due t.d_l_ways_due ["ties", "a", "b", "ways"] (spG K mg 4 f_l_ways_due) := by
  have G_l_apart := ok_l_apart (P := P) (w := w) (base := base) t
  have G_l_leads := ok_l_leads (P := P) (w := w) (base := base) t
  have nd : (["ties", "a", "b", "ways", "way"] : List Str).Nodup := by decide +kernel
  exact fn_okN t.F_l_ways_due (Δn := [.im false, .im false, .im false, .im false, .no]) sc_l_ways_due rfl rfl (by decide) fun cdv A outer s H E hr => ⟨_, BD.frm [.im false, .im false, .im false, .im false, .no] (Δb := kd0 4 5 false) (Δc := kd0 4 5 false)
    (b_cons (z_if (Δn := [.im false, .im false, .im false, .im false, .no]) (c_w (w_or (c_not (c_val (x_callN G_l_apart (hr.mono (by decide)) t.m_l_apart t.F_l_apart.kp t.b_l_apart pass0 (AD.to true false (a_cons (x_var 3) (a_nil)))))) (w_or1 (c_not (c_val (x_all t.n_all (AD.to true true (a_cons ((x_lc (n := 5) [("way", 4)] nd (i_seq (x_var 3)) (blk_fx (N := ["ties", "a", "b", "ways", "way"]) (sc := defScope st_l_ways_due) (by decide +kernel)) (fun _ _ _ _ _ => g_name 4 nd) (fun _ _ _ _ _ => t_nil) (fun _ _ _ _ _ => x_callN G_l_leads (hr.mono (by decide)) t.m_l_leads t.F_l_leads.kp t.b_l_leads pass0 (AD.to true false (a_cons (x_var 0) (a_cons (x_var 1) (a_cons (x_var 2) (a_cons (x_var 4) (a_nil)))))))).nv) (a_nil)))))))))
    (b_one (z_ret (x_non)))
    ((b_nil).to [.im false, .im false, .im false, .im false, .no]))
    (b_one (z_ret (x_len t.n_len (AD.to true false (a_cons (x_var 3) (a_nil))))))) rfl⟩
/-! ### _law_due -/
def g_l_due : Gs := gSeqS (gIfS (gTest (gOp hEq (gOp hIx (gVar 2) (gC (.int (0)))) (gC (.str "out")))) (gSeqS (gSet 3 (gLc (gSeq (gVar 1)) (tgN 4) (gAnd (gTest (gOp hEq (gOp hIx (gVar 4) (gC (.int (0)))) (gOp hIx (gVar 2) (gC (.int (1)))))) (gTest (gOp hNe (gOp hIx (gVar 4) (gC (.int (1)))) (gOp hIx (gVar 4) (gC (.int (2))))))) (gVar 4))) (gSeqS (gIfS (gTest (gOp hEq (gVar 3) (gLst (gNil)))) (gRet (gC .none)) (gNext)) (gSeqS (gSet 5 (gLc (gSeq (gVar 1)) (tgN 4) (gTest (gOp hGt (gOp hIx (gVar 4) (gC (.int (0)))) (gOp hIx (gVar 2) (gC (.int (1)))))) (gVar 4))) (gSeqS (gSet 6 (gCallN 4 f_l_ways_due (gCons (gVar 5) (gCons (gOp hIx (gOp hIx (gVar 3) (gC (.int (0)))) (gC (.int (1)))) (gCons (gOp hIx (gOp hIx (gVar 3) (gC (.int (0)))) (gC (.int (2)))) (gCons (gOp hIx (gVar 2) (gC (.int (2)))) (gNil))))))) (gRet (gOp hIx (gLst (gCons (gTup (gCons (gC (.str "out")) (gCons (gVar 6) (gNil)))) (gCons (gC .none) (gNil)))) (gCB hInt1 (gCons (gOp hIs (gVar 6) (gC .none)) (gNil))))))))) (gNext)) (gSeqS (gAsg (gVar 2) (tgT (tgCons (tgN 7) (tgCons (tgN 8) (tgCons (tgN 9) (tgCons (tgN 10) (tgCons (tgN 11) (tgNil)))))))) (gSeqS (gIfS (gOr (gNot (gTest (gChain hLe hLt (gC (.int (0))) (gVar 8) (gVar 0)))) (gOr (gNot (gTest (gChain hLe hLt (gC (.int (0))) (gVar 9) (gVar 0)))) (gOr (gTest (gOp hEq (gVar 8) (gVar 9))) (gTest (gOp hLt (gVar 10) (gC (.int (0)))))))) (gRet (gC .none)) (gNext)) (gSeqS (gSet 5 (gLc (gSeq (gVar 1)) (tgN 4) (gTest (gOp hGe (gOp hIx (gVar 4) (gC (.int (0)))) (gVar 10))) (gVar 4))) (gSeqS (gIfS (gTest (gOp hEq (gVar 7) (gC (.str "ways")))) (gSeqS (gSet 6 (gCallN 4 f_l_ways_due (gCons (gVar 5) (gCons (gVar 8) (gCons (gVar 9) (gCons (gVar 11) (gNil))))))) (gRet (gOp hIx (gLst (gCons (gTup (gCons (gC (.str "at least")) (gCons (gVar 6) (gNil)))) (gCons (gC .none) (gNil)))) (gCB hInt1 (gCons (gOp hIs (gVar 6) (gC .none)) (gNil)))))) (gNext)) (gSeqS (gIfS (gOr (gTest (gOp hNe (gCB (one hListOf) (gCons (gVar 11) gNil)) (gUn hSortSetU (gVar 11)))) (gOr (gTest (gOp hNotIn (gVar 8) (gVar 11))) (gTest (gOp hIn (gVar 9) (gVar 11))))) (gRet (gC .none)) (gNext)) (gSeqS (gIfS (gOr (gTest (gOp hLt (gOp hIx (gVar 11) (gC (.int (0)))) (gC (.int (0))))) (gTest (gOp hGe (gOp hIx (gVar 11) (gUn (hU fun i => -i) (gC (.int (1))))) (gVar 0)))) (gRet (gC .none)) (gNext)) (gRet (gTup (gCons (gC (.str "at most")) (gCons (gCB hLen (gCons (gLc (gSeq (gVar 5)) (tgN 4) (gTest (gOp hNe (gOp hIn (gOp hIx (gVar 4) (gC (.int (1)))) (gVar 11)) (gOp hIn (gOp hIx (gVar 4) (gC (.int (2)))) (gVar 11)))) (gVar 4)) (gNil))) (gNil)))))))))))
def f_l_due : List Dt → O Dt := fnN 12 g_l_due
theorem ok_l_due (t : Tx K mg) : FnOk P w K mg base CX0 3 t.a_l_due t.d_l_due ["n", "record", "paper"] (spG K mg 3 f_l_due) := by
  have G_l_ways_due := ok_l_ways_due (P := P) (w := w) (base := base) t
  have nd : (["n", "record", "paper", "ends", "tie", "later", "many", "word", "a", "b", "t", "shown"] : List Str).Nodup := by decide +kernel
  exact fn_okN t.F_l_due (Δn := [.im false, .im false, .im false, .no, .no, .no, .no, .no, .no, .no, .no, .no]) sc_l_due rfl rfl (by decide) fun cdv A outer s H E hr => ⟨_, BD.frm [.im false, .im false, .im false, .no, .no, .no, .no, .no, .no, .no, .no, .no] (Δb := kd0 3 12 false) (Δc := kd0 3 12 false)
    (b_cons (z_if (Δn := [.im false, .im false, .im false, .no, .no, .no, .no, .no, .no, .no, .no, .no]) (c_cmp (or_eq hr) (x_ix (x_var 2) (x_int)) (x_str))
    (b_cons ((z_setLc 3 (n := 12) [("tie", 4)] nd (i_seq (x_var 1)) (blk_fx (N := ["n", "record", "paper", "ends", "tie", "later", "many", "word", "a", "b", "t", "shown"]) (sc := defScope st_l_due) (by decide +kernel)) (fun _ _ _ _ _ => g_name 4 nd) (fun _ _ _ _ _ => t_one (c_w (w_and (c_cmp (or_eq hr) (x_ix (x_var 4) (x_int)) (x_ix (x_var 2) (x_int))) (w_and1 (c_cmp (or_ne hr) (x_ix (x_var 4) (x_int)) (x_ix (x_var 4) (x_int))))))) (fun _ _ _ _ _ => x_var 4) (sw_true rfl rfl rfl (by decide +kernel))).to [.im false, .im false, .im false, .im false, .no, .no, .no, .no, .no, .no, .no, .no])
    (b_cons (z_if (Δn := [.im false, .im false, .im false, .im false, .no, .no, .no, .no, .no, .no, .no, .no]) (c_cmp (or_eq hr) (x_var 3) ((x_lst (a_nil)).nv))
    (b_one (z_ret (x_non)))
    ((b_nil).to [.im false, .im false, .im false, .im false, .no, .no, .no, .no, .no, .no, .no, .no]))
    (b_cons ((z_setLc 5 (n := 12) [("tie", 4)] nd (i_seq (x_var 1)) (blk_fx (N := ["n", "record", "paper", "ends", "tie", "later", "many", "word", "a", "b", "t", "shown"]) (sc := defScope st_l_due) (by decide +kernel)) (fun _ _ _ _ _ => g_name 4 nd) (fun _ _ _ _ _ => t_one (c_cmp or_gt (x_ix (x_var 4) (x_int)) (x_ix (x_var 2) (x_int)))) (fun _ _ _ _ _ => x_var 4) (sw_true rfl rfl rfl (by decide +kernel))).to [.im false, .im false, .im false, .im false, .no, .im false, .no, .no, .no, .no, .no, .no])
    (b_cons ((z_set 6 nd (x_callN G_l_ways_due (hr.mono (by decide)) t.m_l_ways_due t.F_l_ways_due.kp t.b_l_ways_due pass0 (AD.to true false (a_cons (x_var 5) (a_cons (x_ix (x_ix (x_var 3) (x_int)) (x_int)) (a_cons (x_ix (x_ix (x_var 3) (x_int)) (x_int)) (a_cons (x_ix (x_var 2) (x_int)) (a_nil)))))))).to [.im false, .im false, .im false, .im false, .no, .im false, .im true, .no, .no, .no, .no, .no])
    (b_one (z_ret (x_ix ((x_lst (AD.to true true (a_cons (x_tup (AD.to true true (a_cons (x_str) (a_cons (x_var 6) (a_nil))))) (a_cons (x_non) (a_nil))))).nv) (x_int1 t.n_int (AD.to true true (a_cons (x_cmp or_isN (x_var 6) (x_non)) (a_nil)))))))))))
    ((b_nil).to [.im false, .im false, .im false, .no, .no, .no, .no, .no, .no, .no, .no, .no]))
    (b_cons ((z_asg (n := 12) (x_var 2) (g_tup (m := 5) rfl (g_cons (g_name 7 nd) (g_cons (g_name 8 nd) (g_cons (g_name 9 nd) (g_cons (g_name 10 nd) (g_cons (g_name 11 nd) (g_nil)))))) (tgCons_len (tgCons_len (tgCons_len (tgCons_len (tgCons_len tgNil_len))))))).to [.im false, .im false, .im false, .no, .no, .no, .no, .im false, .im false, .im false, .im false, .im false])
    (b_cons (z_if (Δn := [.im false, .im false, .im false, .no, .no, .no, .no, .im false, .im false, .im false, .im false, .im false]) (c_w (w_or (c_not (c_chain or_le or_lt (x_int) (x_var 8) (x_var 0))) (w_or (c_not (c_chain or_le or_lt (x_int) (x_var 9) (x_var 0))) (w_or (c_cmp (or_eq hr) (x_var 8) (x_var 9)) (w_or1 (c_cmp or_lt (x_var 10) (x_int)))))))
    (b_one (z_ret (x_non)))
    ((b_nil).to [.im false, .im false, .im false, .no, .no, .no, .no, .im false, .im false, .im false, .im false, .im false]))
    (b_cons ((z_setLc 5 (n := 12) [("tie", 4)] nd (i_seq (x_var 1)) (blk_fx (N := ["n", "record", "paper", "ends", "tie", "later", "many", "word", "a", "b", "t", "shown"]) (sc := defScope st_l_due) (by decide +kernel)) (fun _ _ _ _ _ => g_name 4 nd) (fun _ _ _ _ _ => t_one (c_cmp or_ge (x_ix (x_var 4) (x_int)) (x_var 10))) (fun _ _ _ _ _ => x_var 4) (sw_true rfl rfl rfl (by decide +kernel))).to [.im false, .im false, .im false, .no, .no, .im false, .no, .im false, .im false, .im false, .im false, .im false])
    (b_cons (z_if (Δn := [.im false, .im false, .im false, .no, .no, .im false, .no, .im false, .im false, .im false, .im false, .im false]) (c_cmp (or_eq hr) (x_var 7) (x_str))
    (b_cons ((z_set 6 nd (x_callN G_l_ways_due (hr.mono (by decide)) t.m_l_ways_due t.F_l_ways_due.kp t.b_l_ways_due pass0 (AD.to true false (a_cons (x_var 5) (a_cons (x_var 8) (a_cons (x_var 9) (a_cons (x_var 11) (a_nil)))))))).to [.im false, .im false, .im false, .no, .no, .im false, .im true, .im false, .im false, .im false, .im false, .im false])
    (b_one (z_ret (x_ix ((x_lst (AD.to true true (a_cons (x_tup (AD.to true true (a_cons (x_str) (a_cons (x_var 6) (a_nil))))) (a_cons (x_non) (a_nil))))).nv) (x_int1 t.n_int (AD.to true true (a_cons (x_cmp or_isN (x_var 6) (x_non)) (a_nil))))))))
    ((b_nil).to [.im false, .im false, .im false, .no, .no, .im false, .no, .im false, .im false, .im false, .im false, .im false]))
    (b_cons (z_if (Δn := [.im false, .im false, .im false, .no, .no, .im false, .no, .im false, .im false, .im false, .im false, .im false]) (c_w (w_or (c_cmp (or_ne hr) ((x_list t.n_list (a_cons (x_var 11) a_nil)).nv) ((x_sortSetU t.n_sorted t.n_set (x_var 11)).nv)) (w_or (c_cmp (or_notIn hr) (x_var 8) (x_var 11)) (w_or1 (c_cmp (or_in hr) (x_var 9) (x_var 11))))))
    (b_one (z_ret (x_non)))
    ((b_nil).to [.im false, .im false, .im false, .no, .no, .im false, .no, .im false, .im false, .im false, .im false, .im false]))
    (b_cons (z_if (Δn := [.im false, .im false, .im false, .no, .no, .im false, .no, .im false, .im false, .im false, .im false, .im false]) (c_w (w_or (c_cmp or_lt (x_ix (x_var 11) (x_int)) (x_int)) (w_or1 (c_cmp or_ge (x_ix (x_var 11) (x_neg (x_int))) (x_var 0)))))
    (b_one (z_ret (x_non)))
    ((b_nil).to [.im false, .im false, .im false, .no, .no, .im false, .no, .im false, .im false, .im false, .im false, .im false]))
    (b_one (z_ret (x_tup (AD.to true true (a_cons (x_str) (a_cons (x_len t.n_len (AD.to true false (a_cons ((x_lc (n := 12) [("tie", 4)] nd (i_seq (x_var 5)) (blk_fx (N := ["n", "record", "paper", "ends", "tie", "later", "many", "word", "a", "b", "t", "shown"]) (sc := defScope st_l_due) (by decide +kernel)) (fun _ _ _ _ _ => g_name 4 nd) (fun _ _ _ _ _ => t_one (c_cmp (or_ne hr) (x_cmp (or_in hr) (x_ix (x_var 4) (x_int)) (x_var 11)) (x_cmp (or_in hr) (x_ix (x_var 4) (x_int)) (x_var 11)))) (fun _ _ _ _ _ => x_var 4)).nv) (a_nil)))) (a_nil)))))))))))))) rfl⟩
/-! ### _law_judged -/
def g_l_judged : Gs := gSeqS (gSet 3 (gC .none)) (gSeqS (gSet 4 (gC .none)) (gSeqS (gTry (gSet 4 (gCallX 3 f_judged (gCons (gVar 0) (gCons (gVar 1) (gCons (gVar 2) (gNil)))))) ["NoPaper"] [] 5 (gSet 3 (gVar 5))) (gSeqS (gIfS (gTest (gOp hIs (gVar 3) (gC .none))) (gRet (gVar 4)) (gNext)) (gSeqS (gIfS (gOr (gNot (gTest (gUn (hIsX [("NoPaper", true)]) (gVar 3)))) (gNot (gTest (gUn (hIsX [("NoPaper", true)]) (gVar 3))))) (gRet (gC (.str "odd"))) (gNext)) (gSeqS (gIfS (gTest (gUn (hIsX [("NoPaper", false)]) (gVar 3))) (gRet (gC (.str "odd"))) (gNext)) (gRet (gC .none)))))))
def f_l_judged : List Dt → O Dt := fnN 6 g_l_judged
theorem ok_l_judged (t : Tx K mg) : FnOk P w K mg base CX0 6 t.a_l_judged t.d_l_judged ["n", "record", "paper"] (spG K mg 3 f_l_judged) := by
  have G_judged := ok_judged (P := P) (w := w) (base := base) t
  have nd : (["n", "record", "paper", "caught", "found", "e"] : List Str).Nodup := by decide +kernel
  exact fn_okN t.F_l_judged (Δn := [.im false, .im false, .im false, .no, .no, .no]) sc_l_judged rfl rfl (by decide) fun cdv A outer s H E hr => ⟨_, BD.frm [.im false, .im false, .im false, .no, .no, .no] (Δb := kd0 3 6 false) (Δc := kd0 3 6 false)
    (b_cons ((z_set 3 nd (x_non)).to [.im false, .im false, .im false, .im true, .no, .no])
    (b_cons ((z_set 4 nd (x_non)).to [.im false, .im false, .im false, .im true, .im true, .no])
    (b_cons (z_tryX (Δn := [.im false, .im false, .im false, .im true, .im true, .no]) (yes := ["NoPaper"]) (no := []) 5 t.E_PlyError takes0 (co_cons t.E_NoPaper t.S_NoPaper_PlyError (co_nil)) (co_nil) (fun _ _ _ z => z.elim) nd (fun Wx pn xe tkk => BDx.to [.im false, .im false, .im false, .im true, .im true, .no] (BDx.to [.im false, .im false, .im false, .im true, .im true, .no] (y_one (y_set 4 nd (x_callXN tkk G_judged (hr.mono (by decide)) t.m_judged t.F_judged.kp t.b_judged (AD.to true false (a_cons (x_var 0) (a_cons (x_var 1) (a_cons (x_var 2) (a_nil)))))))))) (fun a pn => (b_one ((z_set 3 nd (x_var 5)).to [.im false, .im false, .im false, .im true, .im true, .im true])).to [.im false, .im false, .im false, .im true, .im true, .no]))
    (b_cons (z_if (Δn := [.im false, .im false, .im false, .im true, .im true, .no]) (c_cmp or_isN (x_var 3) (x_non))
    (b_one (z_ret (x_var 4)))
    ((b_nil).to [.im false, .im false, .im false, .im true, .im true, .no]))
    (b_cons (z_if (Δn := [.im false, .im false, .im false, .im true, .im true, .no]) (c_w (w_or (c_not (c_val (x_isX t.n_isinstance t.E_NoPaper.g (tab_cons t.E_NoPaper (kit_yes t.E_NoPaper t.S_NoPaper_NoPaper) (tab_nil)) (x_var 3)))) (w_or1 (c_not (c_val (x_isXB t.n_isinstance t.n_ValueError (tab_cons t.E_NoPaper (kit_bi t.S_NoPaper_ValueError) (tab_nil)) (x_var 3)))))))
    (b_one (z_ret (x_str)))
    ((b_nil).to [.im false, .im false, .im false, .im true, .im true, .no]))
    (b_cons (z_if (Δn := [.im false, .im false, .im false, .im true, .im true, .no]) (c_val (x_isXT t.n_isinstance (ca_cons t.E_Clash.g (ca_cons t.E_NoNet.g (ca_cons t.E_NoPair.g (ca_cons t.E_NoText.g (ca_cons t.E_NoTies.g (ca_cons t.E_Unlike.g (ca_nil))))))) (tab_cons t.E_NoPaper (kany_cons (kit_no t.E_Clash t.S_NoPaper_Clash t.S_NoPaper_NoPaper) (kany_cons (kit_no t.E_NoNet t.S_NoPaper_NoNet t.S_NoPaper_NoPaper) (kany_cons (kit_no t.E_NoPair t.S_NoPaper_NoPair t.S_NoPaper_NoPaper) (kany_cons (kit_no t.E_NoText t.S_NoPaper_NoText t.S_NoPaper_NoPaper) (kany_cons (kit_no t.E_NoTies t.S_NoPaper_NoTies t.S_NoPaper_NoPaper) (kany_cons (kit_no t.E_Unlike t.S_NoPaper_Unlike t.S_NoPaper_NoPaper) (rfl))))))) (tab_nil)) (x_var 3)))
    (b_one (z_ret (x_str)))
    ((b_nil).to [.im false, .im false, .im false, .im true, .im true, .no]))
    (b_one (z_ret (x_non))))))))) rfl⟩
/-! ### _law_odd -/
def g_l_odd : Gs := gSeqS (gSet 2 (gTup (gCons (gC (.int (0))) (gCons (gC (.int (1))) (gNil))))) (gSeqS (gIfS (gTest (gOp hEq (gOp hIx (gVar 0) (gC (.int (0)))) (gC (.str "side")))) (gSet 2 (gLst (gCons (gLst (gCons (gC (.int (0))) (gNil))) (gNil)))) (gNext)) (gSeqS (gSet 3 (gLst (gCons (gOp hCatT (gTup (gCons (gC (.str "way")) (gNil))) (gSl hSlT (gVar 0) (gPart (gC (.int (1)))) (gNoPart))) (gCons (gOp hCatT (gTup (gCons (gC (.str "")) (gNil))) (gSl hSlT (gVar 0) (gPart (gC (.int (1)))) (gNoPart))) (gCons (gSl hSlT (gVar 0) (gNoPart) (gPart (gUn (hU fun i => -i) (gC (.int (1)))))) (gCons (gOp hCatT (gVar 0) (gTup (gCons (gC (.int (0))) (gNil)))) (gCons (gSl hSlT (gVar 0) (gNoPart) (gPart (gC (.int (1))))) (gCons (gOp hCatT (gSl hSlT (gVar 0) (gNoPart) (gPart (gUn (hU fun i => -i) (gC (.int (1)))))) (gTup (gCons (gC (.int (7))) (gNil)))) (gNil))))))))) (gRet (gOp hIx (gOp hCat (gVar 3) (gLst (gCons (gOp hCatT (gSl hSlT (gVar 0) (gNoPart) (gPart (gUn (hU fun i => -i) (gC (.int (1)))))) (gTup (gCons (gVar 2) (gNil)))) (gCons (gOp hCatT (gTup (gCons (gOp hIx (gVar 0) (gC (.int (0)))) (gCons (gOp hIx (gVar 0) (gUn (hU fun i => -i) (gC (.int (1))))) (gNil)))) (gSl hSlT (gVar 0) (gPart (gC (.int (2)))) (gNoPart))) (gNil))))) (gOp hMod (gVar 1) (gC (.int (8))))))))
def f_l_odd : List Dt → O Dt := fnN 4 g_l_odd
theorem ok_l_odd (t : Tx K mg) : FnOk P w K mg base CX0 1 t.a_l_odd t.d_l_odd ["paper", "number"] (spA K mg 2 f_l_odd) := by
  have nd : (["paper", "number", "other", "some"] : List Str).Nodup := by decide +kernel
  exact fn_okA t.F_l_odd (Δn := [.im true, .im true, .no, .no]) sc_l_odd rfl rfl (by decide) fun cdv A outer s H E hr => ⟨_, BD.frm [.im true, .im true, .no, .no] (Δb := kd0 2 4 true) (Δc := kd0 2 4 true)
    (b_cons ((z_set 2 nd (x_tup (AD.to true true (a_cons (x_int) (a_cons (x_int) (a_nil)))))).to [.im true, .im true, .im true, .no])
    (b_cons (z_if (Δn := [.im true, .im true, .im true, .no]) (c_cmp (or_eq hr) (x_ix (x_var 0) (x_int)) (x_str))
    ((b_one ((z_set 2 nd ((x_lst (AD.to true true (a_cons ((x_lst (AD.to true true (a_cons (x_int) (a_nil)))).nv) (a_nil)))).nv)).to [.im true, .im true, .im true, .no])).to [.im true, .im true, .im true, .no])
    ((b_nil).to [.im true, .im true, .im true, .no]))
    (b_cons ((z_set 3 nd ((x_lst (AD.to true true (a_cons (x_catT ((x_tup (AD.to true true (a_cons (x_str) (a_nil)))).wk (av' := true) (fr' := true)) ((x_slT (x_var 0) (o_some (x_int)) (o_none)).wk (av' := true) (fr' := true))) (a_cons (x_catT ((x_tup (AD.to true true (a_cons (x_str) (a_nil)))).wk (av' := true) (fr' := true)) ((x_slT (x_var 0) (o_some (x_int)) (o_none)).wk (av' := true) (fr' := true))) (a_cons (x_slT (x_var 0) (o_none) (o_some (x_neg (x_int)))) (a_cons (x_catT ((x_var 0).wk (av' := true) (fr' := true)) ((x_tup (AD.to true true (a_cons (x_int) (a_nil)))).wk (av' := true) (fr' := true))) (a_cons (x_slT (x_var 0) (o_none) (o_some (x_int))) (a_cons (x_catT ((x_slT (x_var 0) (o_none) (o_some (x_neg (x_int)))).wk (av' := true) (fr' := true)) ((x_tup (AD.to true true (a_cons (x_int) (a_nil)))).wk (av' := true) (fr' := true))) (a_nil))))))))).nv)).to [.im true, .im true, .im true, .im true])
    (b_one (z_ret (x_ix ((PD.wkN true (x_cat (x_var 3) ((x_lst (AD.to true true (a_cons (x_catT ((x_slT (x_var 0) (o_none) (o_some (x_neg (x_int)))).wk (av' := true) (fr' := true)) ((x_tup (AD.to true true (a_cons (x_var 2) (a_nil)))).wk (av' := true) (fr' := true))) (a_cons (x_catT ((x_tup (AD.to true true (a_cons (x_ix (x_var 0) (x_int)) (a_cons (x_ix (x_var 0) (x_neg (x_int))) (a_nil))))).wk (av' := true) (fr' := true)) ((x_slT (x_var 0) (o_some (x_int)) (o_none)).wk (av' := true) (fr' := true))) (a_nil))))).nv))).nv) (x_mod (x_var 1) (x_int)))))))) rfl⟩
/-! ### _law_side -/
def g_l_side : Gs := gSeqS (gSet 4 (gLc (gRng1 (gCons (gVar 0) (gNil))) (tgN 5) (gTest (gOp hEq (gOp hBand (gOp hShr (gOp hIx (gVar 3) (gC (.int (0)))) (gVar 5)) (gC (.int (1)))) (gC (.int (1))))) (gVar 5))) (gSeqS (gSet 6 (gOp hMod (gOp hIx (gVar 3) (gC (.int (1)))) (gC (.int (8))))) (gSeqS (gIfS (gTest (gOp hLt (gVar 6) (gC (.int (5))))) (gSeqS (gSet 4 (gOp hCat (gLc (gSeq (gVar 4)) (tgN 5) (gTest (gOp hNe (gVar 5) (gVar 2))) (gVar 5)) (gLst (gCons (gVar 1) (gNil))))) (gRet (gCB (one hTupOf) (gCons (gUn hSortSetI (gVar 4)) (gNil))))) (gNext)) (gSeqS (gIfS (gTest (gOp hEq (gVar 6) (gC (.int (5))))) (gRet (gPur (gCB (one hTupOf) (gCons (gOp hCat (gUn hRevL (gVar 4)) (gLst (gCons (gVar 1) (gNil)))) (gNil))))) (gNext)) (gRet (gPur (gCB (one hTupOf) (gCons (gOp hCat (gVar 4) (gOp hRep (gLst (gCons (gVar 0) (gNil))) (gOp hSub (gVar 6) (gC (.int (6)))))) (gNil))))))))
def f_l_side : List Dt → O Dt := fnN 7 g_l_side
theorem ok_l_side (t : Tx K mg) : FnOk P w K mg base CX0 1 t.a_l_side t.d_l_side ["n", "a", "b", "numbers"] (spG K mg 4 f_l_side) := by
  have nd : (["n", "a", "b", "numbers", "side", "place", "way"] : List Str).Nodup := by decide +kernel
  exact fn_okN t.F_l_side (Δn := [.im false, .im false, .im false, .im false, .no, .no, .no]) sc_l_side rfl rfl (by decide) fun cdv A outer s H E hr => ⟨_, BD.frm [.im false, .im false, .im false, .im false, .no, .no, .no] (Δb := kd0 4 7 false) (Δc := kd0 4 7 false)
    (b_cons ((z_setLc 4 (n := 7) [("place", 5)] nd (i_rng1 t.n_range (AD.to true false (a_cons (x_var 0) (a_nil)))) (blk_fx (N := ["n", "a", "b", "numbers", "side", "place", "way"]) (sc := defScope st_l_side) (by decide +kernel)) (fun _ _ _ _ _ => g_name 5 nd) (fun _ _ _ _ _ => t_one (c_cmp (or_eq hr) (x_band (x_shr (x_ix (x_var 3) (x_int)) (x_var 5)) (x_int)) (x_int))) (fun _ _ _ _ _ => x_var 5) (sw_true rfl rfl rfl (by decide +kernel))).to [.im false, .im false, .im false, .im false, .im true, .no, .no])
    (b_cons ((z_set 6 nd (x_mod (x_ix (x_var 3) (x_int)) (x_int))).to [.im false, .im false, .im false, .im false, .im true, .no, .im true])
    (b_cons (z_if (Δn := [.im false, .im false, .im false, .im false, .im true, .no, .im true]) (c_cmp or_lt (x_var 6) (x_int))
    (b_cons ((z_set 4 nd ((PD.wkN false (x_cat ((x_lc (n := 7) [("place", 5)] nd (i_seq (x_var 4)) (blk_fx (N := ["n", "a", "b", "numbers", "side", "place", "way"]) (sc := defScope st_l_side) (by decide +kernel)) (fun _ _ _ _ _ => g_name 5 nd) (fun _ _ _ _ _ => t_one (c_cmp (or_ne hr) (x_var 5) (x_var 2))) (fun _ _ _ _ _ => x_var 5)).nv) ((x_lst (AD.to true false (a_cons (x_var 1) (a_nil)))).nv))).nv)).to [.im false, .im false, .im false, .im false, .im false, .no, .im true])
    (b_one (z_ret (x_tuple t.n_tuple (AD.to true true (a_cons ((x_sortSetI t.n_sorted t.n_set (x_var 4)).nv) (a_nil)))))))
    ((b_nil).to [.im false, .im false, .im false, .im false, .im true, .no, .im true]))
    (b_cons (z_if (Δn := [.im false, .im false, .im false, .im false, .im true, .no, .im true]) (c_cmp (or_eq hr) (x_var 6) (x_int))
    (b_one (z_ret (PD.pur (x_tuple t.n_tuple (AD.to true false (a_cons ((PD.wkN false (x_cat ((x_revL (x_var 4)).nv) ((x_lst (AD.to true false (a_cons (x_var 1) (a_nil)))).nv))).nv) (a_nil)))))))
    ((b_nil).to [.im false, .im false, .im false, .im false, .im true, .no, .im true]))
    (b_one (z_ret (PD.pur (x_tuple t.n_tuple (AD.to true false (a_cons ((PD.wkN false (x_cat (x_var 4) ((x_rep (x_lst (AD.to true false (a_cons (x_var 0) (a_nil)))) (x_sub (x_var 6) (x_int))).nv))).nv) (a_nil))))))))))) rfl⟩
/-! ### _law_papers -/
def g_l_papers_L1 : Gs := gSeqS (gSet 12 (gCallN 5 f_l_went (gCons (gVar 8) (gCons (gVar 3) (gCons (gVar 4) (gCons (gSl hSl (gVar 2) (gPart (gOp hAdd (gC (.int (6))) (gVar 11))) (gPart (gOp hAdd (gC (.int (14))) (gVar 11)))) (gCons (gVar 10) (gNil)))))))) (gIfS (gOr (gTest (gCallN 4 f_l_leads (gCons (gVar 8) (gCons (gVar 3) (gCons (gVar 4) (gCons (gVar 12) (gNil))))))) (gTest (gOp hEq (gOp hMod (gOp hDiv (gOp hIx (gVar 2) (gC (.int (5)))) (gC (.int (4)))) (gC (.int (4)))) (gC (.int (1)))))) (gSeqS (gApp 9 (gVar 12)) (gSet 10 (gOp hCat (gVar 10) (gOp hRep (gVar 12) (gCB hInt1 (gCons (gOp hNe (gOp hMod (gOp hDiv (gOp hIx (gVar 2) (gC (.int (5)))) (gC (.int (16)))) (gC (.int (4)))) (gC (.int (1)))) (gNil))))))) (gNext))
def g_l_papers : Gs := gSeqS (gSet 3 (gOp hMod (gOp hIx (gVar 2) (gC (.int (0)))) (gVar 0))) (gSeqS (gSet 4 (gOp hMod (gOp hIx (gVar 2) (gC (.int (1)))) (gVar 0))) (gSeqS (gSet 5 (gOp hCat (gLc (gSeq (gVar 1)) (tgN 6) (gYes) (gOp hAdd (gOp hIx (gVar 6) (gC (.int (0)))) (gOp hMod (gOp hIx (gVar 2) (gC (.int (3)))) (gC (.int (2)))))) (gLst (gCons (gC (.int (0))) (gCons (gOp hIx (gVar 2) (gC (.int (2)))) (gNil)))))) (gSeqS (gSet 7 (gPur (gOp hIx (gVar 5) (gOp hMod (gOp hIx (gVar 2) (gC (.int (4)))) (gCB hLen (gCons (gVar 5) (gNil))))))) (gSeqS (gSet 8 (gLc (gSeq (gVar 1)) (tgN 6) (gTest (gOp hGe (gOp hIx (gVar 6) (gC (.int (0)))) (gVar 7))) (gVar 6))) (gSeqS (gSet 9 (gLst (gNil))) (gSeqS (gSet 10 (gLst (gNil))) (gSeqS (gFor (gRng1 (gCons (gOp hMod (gOp hIx (gVar 2) (gC (.int (5)))) (gC (.int (4)))) (gNil))) (tgN 11) g_l_papers_L1) (gSeqS (gSet 5 (gLst (gCons (gTup (gCons (gC (.str "ways")) (gCons (gVar 3) (gCons (gVar 4) (gCons (gVar 7) (gCons (gVar 9) (gNil))))))) (gCons (gTup (gCons (gC (.str "ways")) (gCons (gVar 4) (gCons (gVar 3) (gCons (gVar 7) (gCons (gLc (gSeq (gVar 9)) (tgN 12) (gYes) (gUn hRevL (gVar 12))) (gNil))))))) (gNil))))) (gSeqS (gApp 5 (gTup (gCons (gC (.str "ways")) (gCons (gVar 3) (gCons (gVar 4) (gCons (gOp hAdd (gVar 7) (gOp hMod (gOp hIx (gVar 2) (gC (.int (3)))) (gC (.int (3))))) (gCons (gOp hCat (gVar 9) (gSl hSl (gVar 9) (gNoPart) (gPart (gC (.int (1)))))) (gNil)))))))) (gSeqS (gApp 5 (gTup (gCons (gC (.str "side")) (gCons (gVar 3) (gCons (gVar 4) (gCons (gVar 7) (gCons (gCallN 4 f_l_side (gCons (gVar 0) (gCons (gVar 3) (gCons (gVar 4) (gCons (gSl hSl (gVar 2) (gPart (gC (.int (14)))) (gPart (gC (.int (16))))) (gNil)))))) (gNil)))))))) (gSeqS (gSet 5 (gOp hCat (gVar 5) (gLst (gCons (gTup (gCons (gC (.str "ways")) (gCons (gVar 3) (gCons (gOp hAdd (gVar 0) (gVar 4)) (gCons (gVar 7) (gCons (gLst (gNil)) (gNil))))))) (gCons (gTup (gCons (gC (.str "ways")) (gCons (gVar 3) (gCons (gVar 4) (gCons (gUn (hU fun i => -i) (gC (.int (1)))) (gCons (gLst (gNil)) (gNil))))))) (gCons (gTup (gCons (gC (.str "side")) (gCons (gVar 3) (gCons (gVar 4) (gCons (gVar 7) (gCons (gTup (gCons (gUn (hU fun i => -i) (gC (.int (1)))) (gCons (gVar 3) (gNil)))) (gNil))))))) (gNil))))))) (gSeqS (gSet 13 (gLc (gSeq (gVar 8)) (tgN 6) (gAnd (gTest (gOp hIn (gVar 3) (gSl hSlT (gVar 6) (gPart (gC (.int (1)))) (gNoPart)))) (gTest (gOp hNe (gOp hIx (gVar 6) (gC (.int (1)))) (gOp hIx (gVar 6) (gC (.int (2))))))) (gOp hIx (gVar 6) (gC (.int (0)))))) (gSeqS (gIfS (gTest (gOp hNe (gVar 13) (gLst (gNil)))) (gSeqS (gSet 14 (gPur (gOp hIx (gVar 13) (gOp hMod (gOp hIx (gVar 2) (gC (.int (6)))) (gCB hLen (gCons (gVar 13) (gNil))))))) (gApp 5 (gTup (gCons (gC (.str "ways")) (gCons (gVar 3) (gCons (gVar 4) (gCons (gVar 7) (gCons (gLst (gCons (gOp hCat (gLst (gCons (gVar 14) (gCons (gVar 14) (gNil)))) (gCallN 5 f_l_went (gCons (gVar 8) (gCons (gVar 3) (gCons (gVar 4) (gCons (gSl hSl (gVar 2) (gPart (gC (.int (6)))) (gPart (gC (.int (14))))) (gCons (gLst (gNil)) (gNil)))))))) (gNil))) (gNil))))))))) (gNext)) (gSeqS (gIfS (gTest (gOp hNe (gVar 1) (gLst (gNil)))) (gSeqS (gAsg (gPur (gOp hIx (gVar 1) (gOp hMod (gOp hIx (gVar 2) (gC (.int (16)))) (gCB hLen (gCons (gVar 1) (gNil)))))) (tgT (tgCons (tgN 15) (tgCons (tgN 16) (tgCons (tgN 17) (tgNil)))))) (gSeqS (gSet 18 (gLc (gSeq (gVar 1)) (tgN 6) (gTest (gOp hGt (gOp hIx (gVar 6) (gC (.int (0)))) (gVar 15))) (gVar 6))) (gSeqS (gSet 19 (gCallN 5 f_l_went (gCons (gVar 18) (gCons (gVar 16) (gCons (gVar 17) (gCons (gSl hSl (gVar 2) (gPart (gC (.int (6)))) (gPart (gC (.int (14))))) (gCons (gLst (gNil)) (gNil)))))))) (gSeqS (gSet 20 (gCallN 5 f_l_went (gCons (gVar 18) (gCons (gVar 16) (gCons (gVar 17) (gCons (gSl hSl (gVar 2) (gPart (gC (.int (7)))) (gPart (gC (.int (15))))) (gCons (gVar 19) (gNil)))))))) (gSeqS (gSet 21 (gLc (gSeq (gLst (gCons (gVar 19) (gCons (gVar 20) (gNil))))) (tgN 12) (gTest (gCallN 4 f_l_leads (gCons (gVar 18) (gCons (gVar 16) (gCons (gVar 17) (gCons (gVar 12) (gNil))))))) (gVar 12))) (gSeqS (gSet 5 (gOp hCat (gVar 5) (gLst (gCons (gTup (gCons (gC (.str "out")) (gCons (gVar 15) (gCons (gVar 21) (gNil))))) (gCons (gTup (gCons (gC (.str "out")) (gCons (gVar 15) (gCons (gOp hCat (gSl hSl (gVar 21) (gNoPart) (gPart (gC (.int (1))))) (gLst (gCons (gLst (gCons (gVar 15) (gNil))) (gNil)))) (gNil))))) (gNil)))))) (gSet 5 (gOp hCat (gVar 5) (gLst (gCons (gTup (gCons (gC (.str "out")) (gCons (gOp hAdd (gVar 15) (gC (.int (1)))) (gCons (gVar 21) (gNil))))) (gCons (gTup (gCons (gC (.str "out")) (gCons (gVar 15) (gCons (gLst (gCons (gVar 20) (gNil))) (gNil))))) (gCons (gTup (gCons (gC (.str "out")) (gCons (gVar 15) (gCons (gOp hCat (gVar 21) (gSl hSl (gVar 21) (gNoPart) (gPart (gC (.int (1)))))) (gNil))))) (gNil))))))))))))) (gNext)) (gRet (gVar 5))))))))))))))))
def f_l_papers : List Dt → O Dt := fnL 22 g_l_papers
theorem ok_l_papers (t : Tx K mg) : FnOk P w K mg base CX0 2 t.a_l_papers t.d_l_papers ["n", "record", "numbers"] (spL K mg 3 f_l_papers) := by
  have G_l_went := ok_l_went (P := P) (w := w) (base := base) t
  have G_l_leads := ok_l_leads (P := P) (w := w) (base := base) t
  have G_l_side := ok_l_side (P := P) (w := w) (base := base) t
  have nd : (["n", "record", "numbers", "a", "b", "some", "tie", "t", "later", "ways", "used", "k", "way", "near", "back", "moment", "one", "other", "young", "here", "there", "both"] : List Str).Nodup := by decide +kernel
  exact fn_okL t.F_l_papers (Δn := [.im false, .im false, .im false, .no, .no, .no, .no, .no, .no, .no, .no, .no, .no, .no, .no, .no, .no, .no, .no, .no, .no, .no]) sc_l_papers rfl rfl (by decide) fun cdv A outer s H E hr => ⟨_, BD.frm [.im false, .im false, .im false, .no, .no, .no, .no, .no, .no, .no, .no, .no, .no, .no, .no, .no, .no, .no, .no, .no, .no, .no] (Δb := kd0 3 22 false) (Δc := kd0 3 22 false)
    (b_cons ((z_set 3 nd (x_mod (x_ix (x_var 2) (x_int)) (x_var 0))).to [.im false, .im false, .im false, .im true, .no, .no, .no, .no, .no, .no, .no, .no, .no, .no, .no, .no, .no, .no, .no, .no, .no, .no])
    (b_cons ((z_set 4 nd (x_mod (x_ix (x_var 2) (x_int)) (x_var 0))).to [.im false, .im false, .im false, .im true, .im true, .no, .no, .no, .no, .no, .no, .no, .no, .no, .no, .no, .no, .no, .no, .no, .no, .no])
    (b_cons ((z_setO 5 nd (PD.wkN false (x_cat ((x_lc (n := 22) [("tie", 6)] nd (i_seq (x_var 1)) (blk_fx (N := ["n", "record", "numbers", "a", "b", "some", "tie", "t", "later", "ways", "used", "k", "way", "near", "back", "moment", "one", "other", "young", "here", "there", "both"]) (sc := defScope st_l_papers) (by decide +kernel)) (fun _ _ _ _ _ => g_name 6 nd) (fun _ _ _ _ _ => t_nil) (fun _ _ _ _ _ => x_add (x_ix (x_var 6) (x_int)) (x_mod (x_ix (x_var 2) (x_int)) (x_int)))).nv) ((x_lst (AD.to true false (a_cons (x_int) (a_cons (x_ix (x_var 2) (x_int)) (a_nil))))).nv)))).to [.im false, .im false, .im false, .im true, .im true, .own .l false, .no, .no, .no, .no, .no, .no, .no, .no, .no, .no, .no, .no, .no, .no, .no, .no])
    (b_cons ((z_set 7 nd (PD.pur (x_ixO (x_own 5) (x_mod (x_ix (x_var 2) (x_int)) (x_len t.n_len (AD.to false false (a_cons ((x_own 5).ov) (a_nil)))))))).to [.im false, .im false, .im false, .im true, .im true, .own .l false, .no, .im true, .no, .no, .no, .no, .no, .no, .no, .no, .no, .no, .no, .no, .no, .no])
    (b_cons ((z_setLc 8 (n := 22) [("tie", 6)] nd (i_seq (x_var 1)) (blk_fx (N := ["n", "record", "numbers", "a", "b", "some", "tie", "t", "later", "ways", "used", "k", "way", "near", "back", "moment", "one", "other", "young", "here", "there", "both"]) (sc := defScope st_l_papers) (by decide +kernel)) (fun _ _ _ _ _ => g_name 6 nd) (fun _ _ _ _ _ => t_one (c_cmp or_ge (x_ix (x_var 6) (x_int)) (x_var 7))) (fun _ _ _ _ _ => x_var 6) (sw_true rfl rfl rfl (by decide +kernel))).to [.im false, .im false, .im false, .im true, .im true, .own .l false, .no, .im true, .im false, .no, .no, .no, .no, .no, .no, .no, .no, .no, .no, .no, .no, .no])
    (b_cons ((z_setO 9 nd (x_lst (a_nil))).to [.im false, .im false, .im false, .im true, .im true, .own .l false, .no, .im true, .im false, .own .l true, .no, .no, .no, .no, .no, .no, .no, .no, .no, .no, .no, .no])
    (b_cons ((z_set 10 nd ((x_lst (a_nil)).nv)).to [.im false, .im false, .im false, .im true, .im true, .own .l false, .no, .im true, .im false, .own .l true, .im true, .no, .no, .no, .no, .no, .no, .no, .no, .no, .no, .no])
    (b_cons (z_for (n := 22) .never (i_rng1 t.n_range (AD.to true true (a_cons (x_mod (x_ix (x_var 2) (x_int)) (x_int)) (a_nil)))) (g_name 11 nd)
    ((b_cons ((z_set 12 nd ((x_callL G_l_went (hr.mono (by decide)) t.m_l_went t.F_l_went.kp t.b_l_went pass0 (AD.to true false (a_cons (x_var 8) (a_cons (x_var 3) (a_cons (x_var 4) (a_cons ((x_sl (x_var 2) (o_some (x_add (x_int) (x_var 11))) (o_some (x_add (x_int) (x_var 11)))).nv) (a_cons (x_var 10) (a_nil)))))))).nv)).to [.im false, .im false, .im false, .im true, .im true, .own .l false, .no, .im true, .im false, .own .l true, .im true, .im true, .im true, .no, .no, .no, .no, .no, .no, .no, .no, .no])
    (b_one (z_if (Δn := [.im false, .im false, .im false, .im true, .im true, .own .l false, .no, .im true, .im false, .own .l true, .im true, .im true, .im true, .no, .no, .no, .no, .no, .no, .no, .no, .no]) (c_w (w_or (c_val (x_callN G_l_leads (hr.mono (by decide)) t.m_l_leads t.F_l_leads.kp t.b_l_leads pass0 (AD.to true false (a_cons (x_var 8) (a_cons (x_var 3) (a_cons (x_var 4) (a_cons (x_var 12) (a_nil)))))))) (w_or1 (c_cmp (or_eq hr) (x_mod (x_div (x_ix (x_var 2) (x_int)) (x_int)) (x_int)) (x_int)))))
    ((b_cons ((z_app 9 (x_var 12)).to [.im false, .im false, .im false, .im true, .im true, .own .l false, .no, .im true, .im false, .own .l true, .im true, .im true, .im true, .no, .no, .no, .no, .no, .no, .no, .no, .no])
    (b_one ((z_set 10 nd ((PD.wkN true (x_cat (x_var 10) ((x_repV (x_var 12) (x_int1 t.n_int (AD.to true true (a_cons (x_cmp (or_ne hr) (x_mod (x_div (x_ix (x_var 2) (x_int)) (x_int)) (x_int)) (x_int)) (a_nil))))).nv))).nv)).to [.im false, .im false, .im false, .im true, .im true, .own .l false, .no, .im true, .im false, .own .l true, .im true, .im true, .im true, .no, .no, .no, .no, .no, .no, .no, .no, .no]))).to [.im false, .im false, .im false, .im true, .im true, .own .l false, .no, .im true, .im false, .own .l true, .im true, .im true, .im true, .no, .no, .no, .no, .no, .no, .no, .no, .no])
    ((b_nil).to [.im false, .im false, .im false, .im true, .im true, .own .l false, .no, .im true, .im false, .own .l true, .im true, .im true, .im true, .no, .no, .no, .no, .no, .no, .no, .no, .no])))).to [.im false, .im false, .im false, .im true, .im true, .own .l false, .no, .im true, .im false, .own .l true, .im true, .no, .no, .no, .no, .no, .no, .no, .no, .no, .no, .no]))
    (b_cons (SD.frm [.im false, .im false, .im false, .im true, .im true, .own .l false, .no, .im true, .im false, .im true, .im true, .no, .no, .no, .no, .no, .no, .no, .no, .no, .no, .no] ((z_setO 5 nd (x_lst (AD.to true true (a_cons (x_tup (AD.to true true (a_cons (x_str) (a_cons (x_var 3) (a_cons (x_var 4) (a_cons (x_var 7) (a_cons (x_var 9) (a_nil)))))))) (a_cons (x_tup (AD.to true true (a_cons (x_str) (a_cons (x_var 4) (a_cons (x_var 3) (a_cons (x_var 7) (a_cons ((x_lc (n := 22) [("way", 12)] nd (i_seq (x_var 9)) (blk_fx (N := ["n", "record", "numbers", "a", "b", "some", "tie", "t", "later", "ways", "used", "k", "way", "near", "back", "moment", "one", "other", "young", "here", "there", "both"]) (sc := defScope st_l_papers) (by decide +kernel)) (fun _ _ _ _ _ => g_name 12 nd) (fun _ _ _ _ _ => t_nil) (fun _ _ _ _ _ => (x_revL (x_var 12)).nv)).nv) (a_nil)))))))) (a_nil)))))).to [.im false, .im false, .im false, .im true, .im true, .own .l true, .no, .im true, .im false, .im true, .im true, .no, .no, .no, .no, .no, .no, .no, .no, .no, .no, .no]))
    (b_cons ((z_app 5 (x_tup (AD.to true true (a_cons (x_str) (a_cons (x_var 3) (a_cons (x_var 4) (a_cons (x_add (x_var 7) (x_mod (x_ix (x_var 2) (x_int)) (x_int))) (a_cons ((PD.wkN true (x_cat (x_var 9) ((x_sl (x_var 9) (o_none) (o_some (x_int))).nv))).nv) (a_nil))))))))).to [.im false, .im false, .im false, .im true, .im true, .own .l true, .no, .im true, .im false, .im true, .im true, .no, .no, .no, .no, .no, .no, .no, .no, .no, .no, .no])
    (b_cons ((z_app 5 (x_tup (AD.to true true (a_cons (x_str) (a_cons (x_var 3) (a_cons (x_var 4) (a_cons (x_var 7) (a_cons (x_callN G_l_side (hr.mono (by decide)) t.m_l_side t.F_l_side.kp t.b_l_side pass0 (AD.to true false (a_cons (x_var 0) (a_cons (x_var 3) (a_cons (x_var 4) (a_cons ((x_sl (x_var 2) (o_some (x_int)) (o_some (x_int))).nv) (a_nil))))))) (a_nil))))))))).to [.im false, .im false, .im false, .im true, .im true, .own .l true, .no, .im true, .im false, .im true, .im true, .no, .no, .no, .no, .no, .no, .no, .no, .no, .no, .no])
    (b_cons ((z_setO 5 nd (PD.wkN true (x_catO (x_own 5) ((x_lst (AD.to true true (a_cons (x_tup (AD.to true true (a_cons (x_str) (a_cons (x_var 3) (a_cons (x_add (x_var 0) (x_var 4)) (a_cons (x_var 7) (a_cons ((x_lst (a_nil)).nv) (a_nil)))))))) (a_cons (x_tup (AD.to true true (a_cons (x_str) (a_cons (x_var 3) (a_cons (x_var 4) (a_cons (x_neg (x_int)) (a_cons ((x_lst (a_nil)).nv) (a_nil)))))))) (a_cons (x_tup (AD.to true true (a_cons (x_str) (a_cons (x_var 3) (a_cons (x_var 4) (a_cons (x_var 7) (a_cons (x_tup (AD.to true true (a_cons (x_neg (x_int)) (a_cons (x_var 3) (a_nil))))) (a_nil)))))))) (a_nil)))))).nv)))).to [.im false, .im false, .im false, .im true, .im true, .own .l true, .no, .im true, .im false, .im true, .im true, .no, .no, .no, .no, .no, .no, .no, .no, .no, .no, .no])
    (b_cons ((z_setLc 13 (n := 22) [("tie", 6)] nd (i_seq (x_var 8)) (blk_fx (N := ["n", "record", "numbers", "a", "b", "some", "tie", "t", "later", "ways", "used", "k", "way", "near", "back", "moment", "one", "other", "young", "here", "there", "both"]) (sc := defScope st_l_papers) (by decide +kernel)) (fun _ _ _ _ _ => g_name 6 nd) (fun _ _ _ _ _ => t_one (c_w (w_and (c_cmp (or_in hr) (x_var 3) (x_slT (x_var 6) (o_some (x_int)) (o_none))) (w_and1 (c_cmp (or_ne hr) (x_ix (x_var 6) (x_int)) (x_ix (x_var 6) (x_int))))))) (fun _ _ _ _ _ => x_ix (x_var 6) (x_int)) (sw_true rfl rfl rfl (by decide +kernel))).to [.im false, .im false, .im false, .im true, .im true, .own .l true, .no, .im true, .im false, .im true, .im true, .no, .no, .im false, .no, .no, .no, .no, .no, .no, .no, .no])
    (b_cons (z_if (Δn := [.im false, .im false, .im false, .im true, .im true, .own .l true, .no, .im true, .im false, .im true, .im true, .no, .no, .im false, .no, .no, .no, .no, .no, .no, .no, .no]) (c_cmp (or_ne hr) (x_var 13) ((x_lst (a_nil)).nv))
    ((b_cons ((z_set 14 nd (PD.pur (x_ix (x_var 13) (x_mod (x_ix (x_var 2) (x_int)) (x_len t.n_len (AD.to true false (a_cons (x_var 13) (a_nil)))))))).to [.im false, .im false, .im false, .im true, .im true, .own .l true, .no, .im true, .im false, .im true, .im true, .no, .no, .im false, .im true, .no, .no, .no, .no, .no, .no, .no])
    (b_one ((z_app 5 (x_tup (AD.to true true (a_cons (x_str) (a_cons (x_var 3) (a_cons (x_var 4) (a_cons (x_var 7) (a_cons ((x_lst (AD.to true true (a_cons ((PD.wkN true (x_cat ((x_lst (AD.to true true (a_cons (x_var 14) (a_cons (x_var 14) (a_nil))))).nv) ((x_callL G_l_went (hr.mono (by decide)) t.m_l_went t.F_l_went.kp t.b_l_went pass0 (AD.to true false (a_cons (x_var 8) (a_cons (x_var 3) (a_cons (x_var 4) (a_cons ((x_sl (x_var 2) (o_some (x_int)) (o_some (x_int))).nv) (a_cons ((x_lst (a_nil)).nv) (a_nil)))))))).nv))).nv) (a_nil)))).nv) (a_nil))))))))).to [.im false, .im false, .im false, .im true, .im true, .own .l true, .no, .im true, .im false, .im true, .im true, .no, .no, .im false, .im true, .no, .no, .no, .no, .no, .no, .no]))).to [.im false, .im false, .im false, .im true, .im true, .own .l true, .no, .im true, .im false, .im true, .im true, .no, .no, .im false, .no, .no, .no, .no, .no, .no, .no, .no])
    ((b_nil).to [.im false, .im false, .im false, .im true, .im true, .own .l true, .no, .im true, .im false, .im true, .im true, .no, .no, .im false, .no, .no, .no, .no, .no, .no, .no, .no]))
    (b_cons (z_if (Δn := [.im false, .im false, .im false, .im true, .im true, .own .l true, .no, .im true, .im false, .im true, .im true, .no, .no, .im false, .no, .no, .no, .no, .no, .no, .no, .no]) (c_cmp (or_ne hr) (x_var 1) ((x_lst (a_nil)).nv))
    ((b_cons ((z_asg (n := 22) (PD.pur (x_ix (x_var 1) (x_mod (x_ix (x_var 2) (x_int)) (x_len t.n_len (AD.to true false (a_cons (x_var 1) (a_nil))))))) (g_tup (m := 3) rfl (g_cons (g_name 15 nd) (g_cons (g_name 16 nd) (g_cons (g_name 17 nd) (g_nil)))) (tgCons_len (tgCons_len (tgCons_len tgNil_len))))).to [.im false, .im false, .im false, .im true, .im true, .own .l true, .no, .im true, .im false, .im true, .im true, .no, .no, .im false, .no, .im true, .im true, .im true, .no, .no, .no, .no])
    (b_cons ((z_set 18 nd ((x_lc (n := 22) [("tie", 6)] nd (i_seq (x_var 1)) (blk_fx (N := ["n", "record", "numbers", "a", "b", "some", "tie", "t", "later", "ways", "used", "k", "way", "near", "back", "moment", "one", "other", "young", "here", "there", "both"]) (sc := defScope st_l_papers) (by decide +kernel)) (fun _ _ _ _ _ => g_name 6 nd) (fun _ _ _ _ _ => t_one (c_cmp or_gt (x_ix (x_var 6) (x_int)) (x_var 15))) (fun _ _ _ _ _ => x_var 6)).nv)).to [.im false, .im false, .im false, .im true, .im true, .own .l true, .no, .im true, .im false, .im true, .im true, .no, .no, .im false, .no, .im true, .im true, .im true, .im false, .no, .no, .no])
    (b_cons ((z_set 19 nd ((x_callL G_l_went (hr.mono (by decide)) t.m_l_went t.F_l_went.kp t.b_l_went pass0 (AD.to true false (a_cons (x_var 18) (a_cons (x_var 16) (a_cons (x_var 17) (a_cons ((x_sl (x_var 2) (o_some (x_int)) (o_some (x_int))).nv) (a_cons ((x_lst (a_nil)).nv) (a_nil)))))))).nv)).to [.im false, .im false, .im false, .im true, .im true, .own .l true, .no, .im true, .im false, .im true, .im true, .no, .no, .im false, .no, .im true, .im true, .im true, .im false, .im true, .no, .no])
    (b_cons ((z_set 20 nd ((x_callL G_l_went (hr.mono (by decide)) t.m_l_went t.F_l_went.kp t.b_l_went pass0 (AD.to true false (a_cons (x_var 18) (a_cons (x_var 16) (a_cons (x_var 17) (a_cons ((x_sl (x_var 2) (o_some (x_int)) (o_some (x_int))).nv) (a_cons (x_var 19) (a_nil)))))))).nv)).to [.im false, .im false, .im false, .im true, .im true, .own .l true, .no, .im true, .im false, .im true, .im true, .no, .no, .im false, .no, .im true, .im true, .im true, .im false, .im true, .im true, .no])
    (b_cons ((z_setLc 21 (n := 22) [("way", 12)] nd (i_seq ((x_lst (AD.to true true (a_cons (x_var 19) (a_cons (x_var 20) (a_nil))))).nv)) (blk_fx (N := ["n", "record", "numbers", "a", "b", "some", "tie", "t", "later", "ways", "used", "k", "way", "near", "back", "moment", "one", "other", "young", "here", "there", "both"]) (sc := defScope st_l_papers) (by decide +kernel)) (fun _ _ _ _ _ => g_name 12 nd) (fun _ _ _ _ _ => t_one (c_val (x_callN G_l_leads (hr.mono (by decide)) t.m_l_leads t.F_l_leads.kp t.b_l_leads pass0 (AD.to true false (a_cons (x_var 18) (a_cons (x_var 16) (a_cons (x_var 17) (a_cons (x_var 12) (a_nil))))))))) (fun _ _ _ _ _ => x_var 12) (sw_true rfl rfl rfl (by decide +kernel))).to [.im false, .im false, .im false, .im true, .im true, .own .l true, .no, .im true, .im false, .im true, .im true, .no, .no, .im false, .no, .im true, .im true, .im true, .im false, .im true, .im true, .im true])
    (b_cons ((z_setO 5 nd (PD.wkN true (x_catO (x_own 5) ((x_lst (AD.to true true (a_cons (x_tup (AD.to true true (a_cons (x_str) (a_cons (x_var 15) (a_cons (x_var 21) (a_nil)))))) (a_cons (x_tup (AD.to true true (a_cons (x_str) (a_cons (x_var 15) (a_cons ((PD.wkN true (x_cat ((x_sl (x_var 21) (o_none) (o_some (x_int))).nv) ((x_lst (AD.to true true (a_cons ((x_lst (AD.to true true (a_cons (x_var 15) (a_nil)))).nv) (a_nil)))).nv))).nv) (a_nil)))))) (a_nil))))).nv)))).to [.im false, .im false, .im false, .im true, .im true, .own .l true, .no, .im true, .im false, .im true, .im true, .no, .no, .im false, .no, .im true, .im true, .im true, .im false, .im true, .im true, .im true])
    (b_one ((z_setO 5 nd (PD.wkN true (x_catO (x_own 5) ((x_lst (AD.to true true (a_cons (x_tup (AD.to true true (a_cons (x_str) (a_cons (x_add (x_var 15) (x_int)) (a_cons (x_var 21) (a_nil)))))) (a_cons (x_tup (AD.to true true (a_cons (x_str) (a_cons (x_var 15) (a_cons ((x_lst (AD.to true true (a_cons (x_var 20) (a_nil)))).nv) (a_nil)))))) (a_cons (x_tup (AD.to true true (a_cons (x_str) (a_cons (x_var 15) (a_cons ((PD.wkN true (x_cat (x_var 21) ((x_sl (x_var 21) (o_none) (o_some (x_int))).nv))).nv) (a_nil)))))) (a_nil)))))).nv)))).to [.im false, .im false, .im false, .im true, .im true, .own .l true, .no, .im true, .im false, .im true, .im true, .no, .no, .im false, .no, .im true, .im true, .im true, .im false, .im true, .im true, .im true])))))))).to [.im false, .im false, .im false, .im true, .im true, .own .l true, .no, .im true, .im false, .im true, .im true, .no, .no, .im false, .no, .no, .no, .no, .no, .no, .no, .no])
    ((b_nil).to [.im false, .im false, .im false, .im true, .im true, .own .l true, .no, .im true, .im false, .im true, .im true, .no, .no, .im false, .no, .no, .no, .no, .no, .no, .no, .no]))
    (b_one (z_retO 5))))))))))))))))) rfl⟩
/-! ### law -/
def g_law_L1 : Gs := gSeqS (gSet 6 (gCB (one hListOf) (gCons (gVar 4) gNil))) (gSeqS (gIfS (gOr (gTest (gOp hNe (gCallN 3 f_l_judged (gCons (gVar 3) (gCons (gVar 6) (gCons (gVar 5) (gNil))))) (gCallN 3 f_l_due (gCons (gVar 3) (gCons (gVar 4) (gCons (gVar 5) (gNil))))))) (gTest (gOp hNe (gVar 6) (gVar 4)))) (gRet (gC (.bool false))) (gNext)) (gIfS (gTest (gOp hIsNot (gCallN 3 f_l_judged (gCons (gVar 3) (gCons (gVar 6) (gCons (gCallN 2 f_l_odd (gCons (gVar 5) (gCons (gOp hIx (gVar 2) (gC (.int (17)))) (gNil)))) (gNil))))) (gC .none))) (gRet (gC (.bool false))) (gNext)))
def g_law_L2 : Gs := gSeqS (gSet 2 (gCallN 3 f_l_numbers (gCons (gVar 1) (gCons (gC (.int (202))) (gCons (gOp hPow (gC (.int (10))) (gC (.int (30)))) (gNil)))))) (gSeqS (gAsg (gCallN 2 f_l_record (gCons (gCallN 2 f_l_great (gCons (gSl hSl (gVar 2) (gPart (gC (.int (18)))) (gNoPart)) (gCons (gOp hIx (gVar 2) (gC (.int (13)))) (gNil)))) (gCons (gC (.int (60))) (gNil)))) (tgT (tgCons (tgN 3) (tgCons (tgN 4) (tgNil))))) (gFor (gSeq (gCallN 3 f_l_papers (gCons (gVar 3) (gCons (gVar 4) (gCons (gSl hSl (gVar 2) (gNoPart) (gPart (gC (.int (17))))) (gNil)))))) (tgN 5) g_law_L1))
def g_law : Gs := gSeqS (gFor (gSeq (gOp hCat (gSl hSl (gVar 0) (gNoPart) (gPart (gC (.int (6))))) (gLst (gCons (gCB hLen (gCons (gVar 0) (gNil))) (gNil))))) (tgN 1) g_law_L2) (gRet (gC (.bool true)))
def f_law : List Dt → O Dt := fnN 7 g_law
theorem ok_law (t : Tx K mg) : FnOk P w K mg base CX0 7 t.a_law t.d_law ["script"] (spG K mg 1 f_law) := by
  have G_l_numbers := ok_l_numbers (P := P) (w := w) (base := base) t
  have G_l_record := ok_l_record (P := P) (w := w) (base := base) t
  have G_l_great := ok_l_great (P := P) (w := w) (base := base) t
  have G_l_papers := ok_l_papers (P := P) (w := w) (base := base) t
  have G_l_judged := ok_l_judged (P := P) (w := w) (base := base) t
  have G_l_due := ok_l_due (P := P) (w := w) (base := base) t
  have G_l_odd := ok_l_odd (P := P) (w := w) (base := base) t
  have nd : (["script", "cell", "numbers", "n", "record", "paper", "handed"] : List Str).Nodup := by decide +kernel
  exact fn_okN t.F_law (Δn := [.im false, .no, .no, .no, .no, .no, .no]) sc_law rfl rfl (by decide) fun cdv A outer s H E hr => ⟨_, BD.frm [.im false, .no, .no, .no, .no, .no, .no] (Δb := kd0 1 7 false) (Δc := kd0 1 7 false)
    (b_cons (z_for (n := 7) .never (i_seq ((PD.wkN false (x_cat ((x_sl (x_var 0) (o_none) (o_some (x_int))).nv) ((x_lst (AD.to true true (a_cons (x_len t.n_len (AD.to true false (a_cons (x_var 0) (a_nil)))) (a_nil)))).nv))).nv)) (g_name 1 nd)
    ((b_cons ((z_set 2 nd ((x_callL G_l_numbers (hr.mono (by decide)) t.m_l_numbers t.F_l_numbers.kp t.b_l_numbers pass0 (AD.to true false (a_cons (x_var 1) (a_cons (x_int) (a_cons (x_pow (x_int) (x_int)) (a_nil)))))).nv)).to [.im false, .im false, .im true, .no, .no, .no, .no])
    (b_cons ((z_asg (n := 7) (x_callN G_l_record (hr.mono (by decide)) t.m_l_record t.F_l_record.kp t.b_l_record pass0 (AD.to true true (a_cons (x_callA G_l_great (hr.mono (by decide)) t.m_l_great t.F_l_great.kp t.b_l_great pass0 (AD.to true true (a_cons ((x_sl (x_var 2) (o_some (x_int)) (o_none)).nv) (a_cons (x_ix (x_var 2) (x_int)) (a_nil))))) (a_cons (x_int) (a_nil))))) (g_tup (m := 2) rfl (g_cons (g_name 3 nd) (g_cons (g_name 4 nd) (g_nil))) (tgCons_len (tgCons_len tgNil_len)))).to [.im false, .im false, .im true, .im true, .im true, .no, .no])
    (b_one (z_for (n := 7) .never (i_seq ((x_callL G_l_papers (hr.mono (by decide)) t.m_l_papers t.F_l_papers.kp t.b_l_papers pass0 (AD.to true true (a_cons (x_var 3) (a_cons (x_var 4) (a_cons ((x_sl (x_var 2) (o_none) (o_some (x_int))).nv) (a_nil)))))).nv)) (g_name 5 nd)
    ((b_cons ((z_set 6 nd ((x_list t.n_list (a_cons (x_var 4) a_nil)).nv)).to [.im false, .im false, .im true, .im true, .im true, .im true, .im true])
    (b_cons (z_if (Δn := [.im false, .im false, .im true, .im true, .im true, .im true, .im true]) (c_w (w_or (c_cmp (or_ne hr) (x_callN G_l_judged (hr.mono (by decide)) t.m_l_judged t.F_l_judged.kp t.b_l_judged pass0 (AD.to true true (a_cons (x_var 3) (a_cons (x_var 6) (a_cons (x_var 5) (a_nil)))))) (x_callN G_l_due (hr.mono (by decide)) t.m_l_due t.F_l_due.kp t.b_l_due pass0 (AD.to true true (a_cons (x_var 3) (a_cons (x_var 4) (a_cons (x_var 5) (a_nil))))))) (w_or1 (c_cmp (or_ne hr) (x_var 6) (x_var 4)))))
    (b_one (z_ret (x_bl)))
    ((b_nil).to [.im false, .im false, .im true, .im true, .im true, .im true, .im true]))
    (b_one (z_if (Δn := [.im false, .im false, .im true, .im true, .im true, .im true, .im true]) (c_cmp or_notN (x_callN G_l_judged (hr.mono (by decide)) t.m_l_judged t.F_l_judged.kp t.b_l_judged pass0 (AD.to true true (a_cons (x_var 3) (a_cons (x_var 6) (a_cons (x_callA G_l_odd (hr.mono (by decide)) t.m_l_odd t.F_l_odd.kp t.b_l_odd pass0 (AD.to true true (a_cons (x_var 5) (a_cons (x_ix (x_var 2) (x_int)) (a_nil))))) (a_nil)))))) (x_non))
    (b_one (z_ret (x_bl)))
    ((b_nil).to [.im false, .im false, .im true, .im true, .im true, .im true, .im true]))))).to [.im false, .im false, .im true, .im true, .im true, .no, .no]))))).to [.im false, .no, .no, .no, .no, .no, .no]))
    (b_one (z_ret (x_bl)))) rfl⟩
end
/-! ### what the top has written -/
section
variable {w : World} {K : PySem.W.Frag} {h : Heap} {mg : Str → Option Value}
def mkTx (X : K.In h) (G : h.Ns mainGlobals mg)
    {f0 : Addr} {od0 an0 : Option Addr} {sl0 : Array (Option Value)} {oc0 kV0 dc0 pm0 cd0 ct0 : Value}
        (a0 : PySem.W.nsIn K mainGlobals "is_whole" = some (some (.ref f0))) (l0 : K.lookup f0 = some ⟨oc0, od0, .func (PySem.W.fnOf "is_whole" "is_whole" (defArgs st_is_whole) (defBody st_is_whole) (defScope st_is_whole) .none kV0 dc0 pm0 an0 cd0 ct0), sl0⟩) (c0 : PySem.W.codeIn K cd0 "is_whole" = true) (k0 : PySem.W.keepIn K (.ref f0) = true)
    {f1 : Addr} {od1 an1 : Option Addr} {sl1 : Array (Option Value)} {oc1 kV1 dc1 pm1 cd1 ct1 : Value}
        (a1 : PySem.W.nsIn K mainGlobals "is_place" = some (some (.ref f1))) (l1 : K.lookup f1 = some ⟨oc1, od1, .func (PySem.W.fnOf "is_place" "is_place" (defArgs st_is_place) (defBody st_is_place) (defScope st_is_place) .none kV1 dc1 pm1 an1 cd1 ct1), sl1⟩) (c1 : PySem.W.codeIn K cd1 "is_place" = true) (k1 : PySem.W.keepIn K (.ref f1) = true)
    {f2 : Addr} {od2 an2 : Option Addr} {sl2 : Array (Option Value)} {oc2 kV2 dc2 pm2 cd2 ct2 : Value}
        (a2 : PySem.W.nsIn K mainGlobals "since" = some (some (.ref f2))) (l2 : K.lookup f2 = some ⟨oc2, od2, .func (PySem.W.fnOf "since" "since" (defArgs st_since) (defBody st_since) (defScope st_since) .none kV2 dc2 pm2 an2 cd2 ct2), sl2⟩) (c2 : PySem.W.codeIn K cd2 "since" = true) (k2 : PySem.W.keepIn K (.ref f2) = true)
    {f3 : Addr} {od3 an3 : Option Addr} {sl3 : Array (Option Value)} {oc3 kV3 dc3 pm3 cd3 ct3 : Value}
        (a3 : PySem.W.nsIn K mainGlobals "rim" = some (some (.ref f3))) (l3 : K.lookup f3 = some ⟨oc3, od3, .func (PySem.W.fnOf "rim" "rim" (defArgs st_rim) (defBody st_rim) (defScope st_rim) .none kV3 dc3 pm3 an3 cd3 ct3), sl3⟩) (c3 : PySem.W.codeIn K cd3 "rim" = true) (k3 : PySem.W.keepIn K (.ref f3) = true)
    {f4 : Addr} {od4 an4 : Option Addr} {sl4 : Array (Option Value)} {oc4 kV4 dc4 pm4 cd4 ct4 : Value}
        (a4 : PySem.W.nsIn K mainGlobals "way_right" = some (some (.ref f4))) (l4 : K.lookup f4 = some ⟨oc4, od4, .func (PySem.W.fnOf "way_right" "way_right" (defArgs st_way_right) (defBody st_way_right) (defScope st_way_right) .none kV4 dc4 pm4 an4 cd4 ct4), sl4⟩) (c4 : PySem.W.codeIn K cd4 "way_right" = true) (k4 : PySem.W.keepIn K (.ref f4) = true)
    {f5 : Addr} {od5 an5 : Option Addr} {sl5 : Array (Option Value)} {oc5 kV5 dc5 pm5 cd5 ct5 : Value}
        (a5 : PySem.W.nsIn K mainGlobals "are_apart" = some (some (.ref f5))) (l5 : K.lookup f5 = some ⟨oc5, od5, .func (PySem.W.fnOf "are_apart" "are_apart" (defArgs st_are_apart) (defBody st_are_apart) (defScope st_are_apart) .none kV5 dc5 pm5 an5 cd5 ct5), sl5⟩) (c5 : PySem.W.codeIn K cd5 "are_apart" = true) (k5 : PySem.W.keepIn K (.ref f5) = true)
    {f6 : Addr} {od6 an6 : Option Addr} {sl6 : Array (Option Value)} {oc6 kV6 dc6 pm6 cd6 ct6 : Value}
        (a6 : PySem.W.nsIn K mainGlobals "many_ways" = some (some (.ref f6))) (l6 : K.lookup f6 = some ⟨oc6, od6, .func (PySem.W.fnOf "many_ways" "many_ways" (defArgs st_many_ways) (defBody st_many_ways) (defScope st_many_ways) .none kV6 dc6 pm6 an6 cd6 ct6), sl6⟩) (c6 : PySem.W.codeIn K cd6 "many_ways" = true) (k6 : PySem.W.keepIn K (.ref f6) = true)
    {f7 : Addr} {od7 an7 : Option Addr} {sl7 : Array (Option Value)} {oc7 kV7 dc7 pm7 cd7 ct7 : Value}
        (a7 : PySem.W.nsIn K mainGlobals "is_side" = some (some (.ref f7))) (l7 : K.lookup f7 = some ⟨oc7, od7, .func (PySem.W.fnOf "is_side" "is_side" (defArgs st_is_side) (defBody st_is_side) (defScope st_is_side) .none kV7 dc7 pm7 an7 cd7 ct7), sl7⟩) (c7 : PySem.W.codeIn K cd7 "is_side" = true) (k7 : PySem.W.keepIn K (.ref f7) = true)
    {f8 : Addr} {od8 an8 : Option Addr} {sl8 : Array (Option Value)} {oc8 kV8 dc8 pm8 cd8 ct8 : Value}
        (a8 : PySem.W.nsIn K mainGlobals "judged_pair" = some (some (.ref f8))) (l8 : K.lookup f8 = some ⟨oc8, od8, .func (PySem.W.fnOf "judged_pair" "judged_pair" (defArgs st_judged_pair) (defBody st_judged_pair) (defScope st_judged_pair) .none kV8 dc8 pm8 an8 cd8 ct8), sl8⟩) (c8 : PySem.W.codeIn K cd8 "judged_pair" = true) (k8 : PySem.W.keepIn K (.ref f8) = true)
    {f9 : Addr} {od9 an9 : Option Addr} {sl9 : Array (Option Value)} {oc9 kV9 dc9 pm9 cd9 ct9 : Value}
        (a9 : PySem.W.nsIn K mainGlobals "judged_out" = some (some (.ref f9))) (l9 : K.lookup f9 = some ⟨oc9, od9, .func (PySem.W.fnOf "judged_out" "judged_out" (defArgs st_judged_out) (defBody st_judged_out) (defScope st_judged_out) .none kV9 dc9 pm9 an9 cd9 ct9), sl9⟩) (c9 : PySem.W.codeIn K cd9 "judged_out" = true) (k9 : PySem.W.keepIn K (.ref f9) = true)
    {f10 : Addr} {od10 an10 : Option Addr} {sl10 : Array (Option Value)} {oc10 kV10 dc10 pm10 cd10 ct10 : Value}
        (a10 : PySem.W.nsIn K mainGlobals "judged" = some (some (.ref f10))) (l10 : K.lookup f10 = some ⟨oc10, od10, .func (PySem.W.fnOf "judged" "judged" (defArgs st_judged) (defBody st_judged) (defScope st_judged) .none kV10 dc10 pm10 an10 cd10 ct10), sl10⟩) (c10 : PySem.W.codeIn K cd10 "judged" = true) (k10 : PySem.W.keepIn K (.ref f10) = true)
    {f11 : Addr} {od11 an11 : Option Addr} {sl11 : Array (Option Value)} {oc11 kV11 dc11 pm11 cd11 ct11 : Value}
        (a11 : PySem.W.nsIn K mainGlobals "_law_mixed" = some (some (.ref f11))) (l11 : K.lookup f11 = some ⟨oc11, od11, .func (PySem.W.fnOf "_law_mixed" "_law_mixed" (defArgs st_l_mixed) (defBody st_l_mixed) (defScope st_l_mixed) .none kV11 dc11 pm11 an11 cd11 ct11), sl11⟩) (c11 : PySem.W.codeIn K cd11 "_law_mixed" = true) (k11 : PySem.W.keepIn K (.ref f11) = true)
    {f12 : Addr} {od12 an12 : Option Addr} {sl12 : Array (Option Value)} {oc12 kV12 dc12 pm12 cd12 ct12 : Value}
        (a12 : PySem.W.nsIn K mainGlobals "_law_numbers" = some (some (.ref f12))) (l12 : K.lookup f12 = some ⟨oc12, od12, .func (PySem.W.fnOf "_law_numbers" "_law_numbers" (defArgs st_l_numbers) (defBody st_l_numbers) (defScope st_l_numbers) .none kV12 dc12 pm12 an12 cd12 ct12), sl12⟩) (c12 : PySem.W.codeIn K cd12 "_law_numbers" = true) (k12 : PySem.W.keepIn K (.ref f12) = true)
    {f13 : Addr} {od13 an13 : Option Addr} {sl13 : Array (Option Value)} {oc13 kV13 dc13 pm13 cd13 ct13 : Value}
        (a13 : PySem.W.nsIn K mainGlobals "_law_ends" = some (some (.ref f13))) (l13 : K.lookup f13 = some ⟨oc13, od13, .func (PySem.W.fnOf "_law_ends" "_law_ends" (defArgs st_l_ends) (defBody st_l_ends) (defScope st_l_ends) .none kV13 dc13 pm13 an13 cd13 ct13), sl13⟩) (c13 : PySem.W.codeIn K cd13 "_law_ends" = true) (k13 : PySem.W.keepIn K (.ref f13) = true)
    {f14 : Addr} {od14 an14 : Option Addr} {sl14 : Array (Option Value)} {oc14 kV14 dc14 pm14 cd14 ct14 : Value}
        (a14 : PySem.W.nsIn K mainGlobals "_law_record" = some (some (.ref f14))) (l14 : K.lookup f14 = some ⟨oc14, od14, .func (PySem.W.fnOf "_law_record" "_law_record" (defArgs st_l_record) (defBody st_l_record) (defScope st_l_record) .none kV14 dc14 pm14 an14 cd14 ct14), sl14⟩) (c14 : PySem.W.codeIn K cd14 "_law_record" = true) (k14 : PySem.W.keepIn K (.ref f14) = true)
    {f15 : Addr} {od15 an15 : Option Addr} {sl15 : Array (Option Value)} {oc15 kV15 dc15 pm15 cd15 ct15 : Value}
        (a15 : PySem.W.nsIn K mainGlobals "_law_great" = some (some (.ref f15))) (l15 : K.lookup f15 = some ⟨oc15, od15, .func (PySem.W.fnOf "_law_great" "_law_great" (defArgs st_l_great) (defBody st_l_great) (defScope st_l_great) .none kV15 dc15 pm15 an15 cd15 ct15), sl15⟩) (c15 : PySem.W.codeIn K cd15 "_law_great" = true) (k15 : PySem.W.keepIn K (.ref f15) = true)
    {f16 : Addr} {od16 an16 : Option Addr} {sl16 : Array (Option Value)} {oc16 kV16 dc16 pm16 cd16 ct16 : Value}
        (a16 : PySem.W.nsIn K mainGlobals "_law_went" = some (some (.ref f16))) (l16 : K.lookup f16 = some ⟨oc16, od16, .func (PySem.W.fnOf "_law_went" "_law_went" (defArgs st_l_went) (defBody st_l_went) (defScope st_l_went) .none kV16 dc16 pm16 an16 cd16 ct16), sl16⟩) (c16 : PySem.W.codeIn K cd16 "_law_went" = true) (k16 : PySem.W.keepIn K (.ref f16) = true)
    {f17 : Addr} {od17 an17 : Option Addr} {sl17 : Array (Option Value)} {oc17 kV17 dc17 pm17 cd17 ct17 : Value}
        (a17 : PySem.W.nsIn K mainGlobals "_law_leads" = some (some (.ref f17))) (l17 : K.lookup f17 = some ⟨oc17, od17, .func (PySem.W.fnOf "_law_leads" "_law_leads" (defArgs st_l_leads) (defBody st_l_leads) (defScope st_l_leads) .none kV17 dc17 pm17 an17 cd17 ct17), sl17⟩) (c17 : PySem.W.codeIn K cd17 "_law_leads" = true) (k17 : PySem.W.keepIn K (.ref f17) = true)
    {f18 : Addr} {od18 an18 : Option Addr} {sl18 : Array (Option Value)} {oc18 kV18 dc18 pm18 cd18 ct18 : Value}
        (a18 : PySem.W.nsIn K mainGlobals "_law_apart" = some (some (.ref f18))) (l18 : K.lookup f18 = some ⟨oc18, od18, .func (PySem.W.fnOf "_law_apart" "_law_apart" (defArgs st_l_apart) (defBody st_l_apart) (defScope st_l_apart) .none kV18 dc18 pm18 an18 cd18 ct18), sl18⟩) (c18 : PySem.W.codeIn K cd18 "_law_apart" = true) (k18 : PySem.W.keepIn K (.ref f18) = true)
    {f19 : Addr} {od19 an19 : Option Addr} {sl19 : Array (Option Value)} {oc19 kV19 dc19 pm19 cd19 ct19 : Value}
        (a19 : PySem.W.nsIn K mainGlobals "_law_ways_due" = some (some (.ref f19))) (l19 : K.lookup f19 = some ⟨oc19, od19, .func (PySem.W.fnOf "_law_ways_due" "_law_ways_due" (defArgs st_l_ways_due) (defBody st_l_ways_due) (defScope st_l_ways_due) .none kV19 dc19 pm19 an19 cd19 ct19), sl19⟩) (c19 : PySem.W.codeIn K cd19 "_law_ways_due" = true) (k19 : PySem.W.keepIn K (.ref f19) = true)
    {f20 : Addr} {od20 an20 : Option Addr} {sl20 : Array (Option Value)} {oc20 kV20 dc20 pm20 cd20 ct20 : Value}
        (a20 : PySem.W.nsIn K mainGlobals "_law_due" = some (some (.ref f20))) (l20 : K.lookup f20 = some ⟨oc20, od20, .func (PySem.W.fnOf "_law_due" "_law_due" (defArgs st_l_due) (defBody st_l_due) (defScope st_l_due) .none kV20 dc20 pm20 an20 cd20 ct20), sl20⟩) (c20 : PySem.W.codeIn K cd20 "_law_due" = true) (k20 : PySem.W.keepIn K (.ref f20) = true)
    {f21 : Addr} {od21 an21 : Option Addr} {sl21 : Array (Option Value)} {oc21 kV21 dc21 pm21 cd21 ct21 : Value}
        (a21 : PySem.W.nsIn K mainGlobals "_law_judged" = some (some (.ref f21))) (l21 : K.lookup f21 = some ⟨oc21, od21, .func (PySem.W.fnOf "_law_judged" "_law_judged" (defArgs st_l_judged) (defBody st_l_judged) (defScope st_l_judged) .none kV21 dc21 pm21 an21 cd21 ct21), sl21⟩) (c21 : PySem.W.codeIn K cd21 "_law_judged" = true) (k21 : PySem.W.keepIn K (.ref f21) = true)
    {f22 : Addr} {od22 an22 : Option Addr} {sl22 : Array (Option Value)} {oc22 kV22 dc22 pm22 cd22 ct22 : Value}
        (a22 : PySem.W.nsIn K mainGlobals "_law_odd" = some (some (.ref f22))) (l22 : K.lookup f22 = some ⟨oc22, od22, .func (PySem.W.fnOf "_law_odd" "_law_odd" (defArgs st_l_odd) (defBody st_l_odd) (defScope st_l_odd) .none kV22 dc22 pm22 an22 cd22 ct22), sl22⟩) (c22 : PySem.W.codeIn K cd22 "_law_odd" = true) (k22 : PySem.W.keepIn K (.ref f22) = true)
    {f23 : Addr} {od23 an23 : Option Addr} {sl23 : Array (Option Value)} {oc23 kV23 dc23 pm23 cd23 ct23 : Value}
        (a23 : PySem.W.nsIn K mainGlobals "_law_side" = some (some (.ref f23))) (l23 : K.lookup f23 = some ⟨oc23, od23, .func (PySem.W.fnOf "_law_side" "_law_side" (defArgs st_l_side) (defBody st_l_side) (defScope st_l_side) .none kV23 dc23 pm23 an23 cd23 ct23), sl23⟩) (c23 : PySem.W.codeIn K cd23 "_law_side" = true) (k23 : PySem.W.keepIn K (.ref f23) = true)
    {f24 : Addr} {od24 an24 : Option Addr} {sl24 : Array (Option Value)} {oc24 kV24 dc24 pm24 cd24 ct24 : Value}
        (a24 : PySem.W.nsIn K mainGlobals "_law_papers" = some (some (.ref f24))) (l24 : K.lookup f24 = some ⟨oc24, od24, .func (PySem.W.fnOf "_law_papers" "_law_papers" (defArgs st_l_papers) (defBody st_l_papers) (defScope st_l_papers) .none kV24 dc24 pm24 an24 cd24 ct24), sl24⟩) (c24 : PySem.W.codeIn K cd24 "_law_papers" = true) (k24 : PySem.W.keepIn K (.ref f24) = true)
    {f25 : Addr} {od25 an25 : Option Addr} {sl25 : Array (Option Value)} {oc25 kV25 dc25 pm25 cd25 ct25 : Value}
        (a25 : PySem.W.nsIn K mainGlobals "law" = some (some (.ref f25))) (l25 : K.lookup f25 = some ⟨oc25, od25, .func (PySem.W.fnOf "law" "law" (defArgs st_law) (defBody st_law) (defScope st_law) .none kV25 dc25 pm25 an25 cd25 ct25), sl25⟩) (c25 : PySem.W.codeIn K cd25 "law" = true) (k25 : PySem.W.keepIn K (.ref f25) = true)
        (z_isinstance : PySem.W.nsIn K mainGlobals "isinstance" = some none)
        (z_int : PySem.W.nsIn K mainGlobals "int" = some none)
        (z_bool : PySem.W.nsIn K mainGlobals "bool" = some none)
        (z_list : PySem.W.nsIn K mainGlobals "list" = some none)
        (z_all : PySem.W.nsIn K mainGlobals "all" = some none)
        (z_len : PySem.W.nsIn K mainGlobals "len" = some none)
        (z_tuple : PySem.W.nsIn K mainGlobals "tuple" = some none)
        (z_range : PySem.W.nsIn K mainGlobals "range" = some none)
        (z_min : PySem.W.nsIn K mainGlobals "min" = some none)
        (z_max : PySem.W.nsIn K mainGlobals "max" = some none)
        (z_set : PySem.W.nsIn K mainGlobals "set" = some none)
        (z_sorted : PySem.W.nsIn K mainGlobals "sorted" = some none)
        (z_ValueError : PySem.W.nsIn K mainGlobals "ValueError" = some none)
        {C_NoPaper : Addr} (u1_NoPaper : PySem.W.nsIn K mainGlobals "NoPaper" = some (some (.ref C_NoPaper))) (u2_NoPaper : PySem.W.keepIn K (.ref C_NoPaper) = true) (u3_NoPaper : PySem.W.typeIn K (.ref C_NoPaper) = some (.type "type"))
        (u4_NoPaper : PySem.W.findIn K (.ref C_NoPaper) "__getattribute__" = some (some (.builtin "BaseException.__getattribute__"))) (u5_NoPaper : PySem.W.findIn K (.ref C_NoPaper) "__getattr__" = some none) (u6_NoPaper : PySem.W.subIn K (.ref C_NoPaper) (.type "BaseException") = some true) (u7_NoPaper : PySem.W.hasDictIn K C_NoPaper = true) (u8_NoPaper : PySem.W.findIn K (.ref C_NoPaper) "__class__" = some (some (.builtin "object.__class__"))) (u9_NoPaper : PySem.W.mroIn K C_NoPaper (.type "object") = some true)
        (uQ_NoPaper : PySem.W.excIn K C_NoPaper veB "ValueError.__new__" = true)
        {C_PlyError : Addr} (u1_PlyError : PySem.W.nsIn K mainGlobals "PlyError" = some (some (.ref C_PlyError))) (u2_PlyError : PySem.W.keepIn K (.ref C_PlyError) = true) (u3_PlyError : PySem.W.typeIn K (.ref C_PlyError) = some (.type "type"))
        (u4_PlyError : PySem.W.findIn K (.ref C_PlyError) "__getattribute__" = some (some (.builtin "BaseException.__getattribute__"))) (u5_PlyError : PySem.W.findIn K (.ref C_PlyError) "__getattr__" = some none) (u6_PlyError : PySem.W.subIn K (.ref C_PlyError) (.type "BaseException") = some true) (u7_PlyError : PySem.W.hasDictIn K C_PlyError = true) (u8_PlyError : PySem.W.findIn K (.ref C_PlyError) "__class__" = some (some (.builtin "object.__class__"))) (u9_PlyError : PySem.W.mroIn K C_PlyError (.type "object") = some true)
        {C_Unlike : Addr} (u1_Unlike : PySem.W.nsIn K mainGlobals "Unlike" = some (some (.ref C_Unlike))) (u2_Unlike : PySem.W.keepIn K (.ref C_Unlike) = true) (u3_Unlike : PySem.W.typeIn K (.ref C_Unlike) = some (.type "type"))
        (u4_Unlike : PySem.W.findIn K (.ref C_Unlike) "__getattribute__" = some (some (.builtin "BaseException.__getattribute__"))) (u5_Unlike : PySem.W.findIn K (.ref C_Unlike) "__getattr__" = some none) (u6_Unlike : PySem.W.subIn K (.ref C_Unlike) (.type "BaseException") = some true) (u7_Unlike : PySem.W.hasDictIn K C_Unlike = true) (u8_Unlike : PySem.W.findIn K (.ref C_Unlike) "__class__" = some (some (.builtin "object.__class__"))) (u9_Unlike : PySem.W.mroIn K C_Unlike (.type "object") = some true)
        {C_NoTies : Addr} (u1_NoTies : PySem.W.nsIn K mainGlobals "NoTies" = some (some (.ref C_NoTies))) (u2_NoTies : PySem.W.keepIn K (.ref C_NoTies) = true) (u3_NoTies : PySem.W.typeIn K (.ref C_NoTies) = some (.type "type"))
        (u4_NoTies : PySem.W.findIn K (.ref C_NoTies) "__getattribute__" = some (some (.builtin "BaseException.__getattribute__"))) (u5_NoTies : PySem.W.findIn K (.ref C_NoTies) "__getattr__" = some none) (u6_NoTies : PySem.W.subIn K (.ref C_NoTies) (.type "BaseException") = some true) (u7_NoTies : PySem.W.hasDictIn K C_NoTies = true) (u8_NoTies : PySem.W.findIn K (.ref C_NoTies) "__class__" = some (some (.builtin "object.__class__"))) (u9_NoTies : PySem.W.mroIn K C_NoTies (.type "object") = some true)
        {C_NoText : Addr} (u1_NoText : PySem.W.nsIn K mainGlobals "NoText" = some (some (.ref C_NoText))) (u2_NoText : PySem.W.keepIn K (.ref C_NoText) = true) (u3_NoText : PySem.W.typeIn K (.ref C_NoText) = some (.type "type"))
        (u4_NoText : PySem.W.findIn K (.ref C_NoText) "__getattribute__" = some (some (.builtin "BaseException.__getattribute__"))) (u5_NoText : PySem.W.findIn K (.ref C_NoText) "__getattr__" = some none) (u6_NoText : PySem.W.subIn K (.ref C_NoText) (.type "BaseException") = some true) (u7_NoText : PySem.W.hasDictIn K C_NoText = true) (u8_NoText : PySem.W.findIn K (.ref C_NoText) "__class__" = some (some (.builtin "object.__class__"))) (u9_NoText : PySem.W.mroIn K C_NoText (.type "object") = some true)
        {C_NoPair : Addr} (u1_NoPair : PySem.W.nsIn K mainGlobals "NoPair" = some (some (.ref C_NoPair))) (u2_NoPair : PySem.W.keepIn K (.ref C_NoPair) = true) (u3_NoPair : PySem.W.typeIn K (.ref C_NoPair) = some (.type "type"))
        (u4_NoPair : PySem.W.findIn K (.ref C_NoPair) "__getattribute__" = some (some (.builtin "BaseException.__getattribute__"))) (u5_NoPair : PySem.W.findIn K (.ref C_NoPair) "__getattr__" = some none) (u6_NoPair : PySem.W.subIn K (.ref C_NoPair) (.type "BaseException") = some true) (u7_NoPair : PySem.W.hasDictIn K C_NoPair = true) (u8_NoPair : PySem.W.findIn K (.ref C_NoPair) "__class__" = some (some (.builtin "object.__class__"))) (u9_NoPair : PySem.W.mroIn K C_NoPair (.type "object") = some true)
        {C_NoNet : Addr} (u1_NoNet : PySem.W.nsIn K mainGlobals "NoNet" = some (some (.ref C_NoNet))) (u2_NoNet : PySem.W.keepIn K (.ref C_NoNet) = true) (u3_NoNet : PySem.W.typeIn K (.ref C_NoNet) = some (.type "type"))
        (u4_NoNet : PySem.W.findIn K (.ref C_NoNet) "__getattribute__" = some (some (.builtin "BaseException.__getattribute__"))) (u5_NoNet : PySem.W.findIn K (.ref C_NoNet) "__getattr__" = some none) (u6_NoNet : PySem.W.subIn K (.ref C_NoNet) (.type "BaseException") = some true) (u7_NoNet : PySem.W.hasDictIn K C_NoNet = true) (u8_NoNet : PySem.W.findIn K (.ref C_NoNet) "__class__" = some (some (.builtin "object.__class__"))) (u9_NoNet : PySem.W.mroIn K C_NoNet (.type "object") = some true)
        {C_Clash : Addr} (u1_Clash : PySem.W.nsIn K mainGlobals "Clash" = some (some (.ref C_Clash))) (u2_Clash : PySem.W.keepIn K (.ref C_Clash) = true) (u3_Clash : PySem.W.typeIn K (.ref C_Clash) = some (.type "type"))
        (u4_Clash : PySem.W.findIn K (.ref C_Clash) "__getattribute__" = some (some (.builtin "BaseException.__getattribute__"))) (u5_Clash : PySem.W.findIn K (.ref C_Clash) "__getattr__" = some none) (u6_Clash : PySem.W.subIn K (.ref C_Clash) (.type "BaseException") = some true) (u7_Clash : PySem.W.hasDictIn K C_Clash = true) (u8_Clash : PySem.W.findIn K (.ref C_Clash) "__class__" = some (some (.builtin "object.__class__"))) (u9_Clash : PySem.W.mroIn K C_Clash (.type "object") = some true)
        (un : PySem.W.specialIn K (.builtin "object.__class__") "__get__" = some (some (.builtin "getset_descriptor.__get__"))) (ut : PySem.W.takesIn K (.builtin "object.__class__") = some true)
        (uS_NoPaper_PlyError : PySem.W.subIn K (.ref C_NoPaper) (.ref C_PlyError) = some true)
        (uS_NoPaper_NoPaper : PySem.W.subIn K (.ref C_NoPaper) (.ref C_NoPaper) = some true)
        (uS_NoPaper_ValueError : PySem.W.subIn K (.ref C_NoPaper) (.type "ValueError") = some true)
        (uS_NoPaper_Unlike : PySem.W.subIn K (.ref C_NoPaper) (.ref C_Unlike) = some false)
        (uS_NoPaper_NoTies : PySem.W.subIn K (.ref C_NoPaper) (.ref C_NoTies) = some false)
        (uS_NoPaper_NoText : PySem.W.subIn K (.ref C_NoPaper) (.ref C_NoText) = some false)
        (uS_NoPaper_NoPair : PySem.W.subIn K (.ref C_NoPaper) (.ref C_NoPair) = some false)
        (uS_NoPaper_NoNet : PySem.W.subIn K (.ref C_NoPaper) (.ref C_NoNet) = some false)
        (uS_NoPaper_Clash : PySem.W.subIn K (.ref C_NoPaper) (.ref C_Clash) = some false) : Tx K mg where
  a_is_whole := f0
  d_is_whole := _
  F_is_whole := fun_mk (st := st_is_whole) l0 c0 k0
  m_is_whole := PySem.W.mg_of X G a0
  b_is_whole := (fun_mk (st := st_is_whole) l0 c0 k0).binds fun _ _ _ _ _ _ us hl => match us, hl with | [_], _ => rfl
  a_is_place := f1
  d_is_place := _
  F_is_place := fun_mk (st := st_is_place) l1 c1 k1
  m_is_place := PySem.W.mg_of X G a1
  b_is_place := (fun_mk (st := st_is_place) l1 c1 k1).binds fun _ _ _ _ _ _ us hl => match us, hl with | [_, _], _ => rfl
  a_since := f2
  d_since := _
  F_since := fun_mk (st := st_since) l2 c2 k2
  m_since := PySem.W.mg_of X G a2
  b_since := (fun_mk (st := st_since) l2 c2 k2).binds fun _ _ _ _ _ _ us hl => match us, hl with | [_, _], _ => rfl
  a_rim := f3
  d_rim := _
  F_rim := fun_mk (st := st_rim) l3 c3 k3
  m_rim := PySem.W.mg_of X G a3
  b_rim := (fun_mk (st := st_rim) l3 c3 k3).binds fun _ _ _ _ _ _ us hl => match us, hl with | [_, _], _ => rfl
  a_way_right := f4
  d_way_right := _
  F_way_right := fun_mk (st := st_way_right) l4 c4 k4
  m_way_right := PySem.W.mg_of X G a4
  b_way_right := (fun_mk (st := st_way_right) l4 c4 k4).binds fun _ _ _ _ _ _ us hl => match us, hl with | [_, _, _, _], _ => rfl
  a_are_apart := f5
  d_are_apart := _
  F_are_apart := fun_mk (st := st_are_apart) l5 c5 k5
  m_are_apart := PySem.W.mg_of X G a5
  b_are_apart := (fun_mk (st := st_are_apart) l5 c5 k5).binds fun _ _ _ _ _ _ us hl => match us, hl with | [_], _ => rfl
  a_many_ways := f6
  d_many_ways := _
  F_many_ways := fun_mk (st := st_many_ways) l6 c6 k6
  m_many_ways := PySem.W.mg_of X G a6
  b_many_ways := (fun_mk (st := st_many_ways) l6 c6 k6).binds fun _ _ _ _ _ _ us hl => match us, hl with | [_, _, _, _], _ => rfl
  a_is_side := f7
  d_is_side := _
  F_is_side := fun_mk (st := st_is_side) l7 c7 k7
  m_is_side := PySem.W.mg_of X G a7
  b_is_side := (fun_mk (st := st_is_side) l7 c7 k7).binds fun _ _ _ _ _ _ us hl => match us, hl with | [_, _], _ => rfl
  a_judged_pair := f8
  d_judged_pair := _
  F_judged_pair := fun_mk (st := st_judged_pair) l8 c8 k8
  m_judged_pair := PySem.W.mg_of X G a8
  b_judged_pair := (fun_mk (st := st_judged_pair) l8 c8 k8).binds fun _ _ _ _ _ _ us hl => match us, hl with | [_, _, _], _ => rfl
  a_judged_out := f9
  d_judged_out := _
  F_judged_out := fun_mk (st := st_judged_out) l9 c9 k9
  m_judged_out := PySem.W.mg_of X G a9
  b_judged_out := (fun_mk (st := st_judged_out) l9 c9 k9).binds fun _ _ _ _ _ _ us hl => match us, hl with | [_, _], _ => rfl
  a_judged := f10
  d_judged := _
  F_judged := fun_mk (st := st_judged) l10 c10 k10
  m_judged := PySem.W.mg_of X G a10
  b_judged := (fun_mk (st := st_judged) l10 c10 k10).binds fun _ _ _ _ _ _ us hl => match us, hl with | [_, _, _], _ => rfl
  a_l_mixed := f11
  d_l_mixed := _
  F_l_mixed := fun_mk (st := st_l_mixed) l11 c11 k11
  m_l_mixed := PySem.W.mg_of X G a11
  b_l_mixed := (fun_mk (st := st_l_mixed) l11 c11 k11).binds fun _ _ _ _ _ _ us hl => match us, hl with | [_, _], _ => rfl
  a_l_numbers := f12
  d_l_numbers := _
  F_l_numbers := fun_mk (st := st_l_numbers) l12 c12 k12
  m_l_numbers := PySem.W.mg_of X G a12
  b_l_numbers := (fun_mk (st := st_l_numbers) l12 c12 k12).binds fun _ _ _ _ _ _ us hl => match us, hl with | [_, _, _], _ => rfl
  a_l_ends := f13
  d_l_ends := _
  F_l_ends := fun_mk (st := st_l_ends) l13 c13 k13
  m_l_ends := PySem.W.mg_of X G a13
  b_l_ends := (fun_mk (st := st_l_ends) l13 c13 k13).binds fun _ _ _ _ _ _ us hl => match us, hl with | [_, _, _, _], _ => rfl
  a_l_record := f14
  d_l_record := _
  F_l_record := fun_mk (st := st_l_record) l14 c14 k14
  m_l_record := PySem.W.mg_of X G a14
  b_l_record := (fun_mk (st := st_l_record) l14 c14 k14).binds fun _ _ _ _ _ _ us hl => match us, hl with | [_, _], _ => rfl
  a_l_great := f15
  d_l_great := _
  F_l_great := fun_mk (st := st_l_great) l15 c15 k15
  m_l_great := PySem.W.mg_of X G a15
  b_l_great := (fun_mk (st := st_l_great) l15 c15 k15).binds fun _ _ _ _ _ _ us hl => match us, hl with | [_, _], _ => rfl
  a_l_went := f16
  d_l_went := _
  F_l_went := fun_mk (st := st_l_went) l16 c16 k16
  m_l_went := PySem.W.mg_of X G a16
  b_l_went := (fun_mk (st := st_l_went) l16 c16 k16).binds fun _ _ _ _ _ _ us hl => match us, hl with | [_, _, _, _, _], _ => rfl
  a_l_leads := f17
  d_l_leads := _
  F_l_leads := fun_mk (st := st_l_leads) l17 c17 k17
  m_l_leads := PySem.W.mg_of X G a17
  b_l_leads := (fun_mk (st := st_l_leads) l17 c17 k17).binds fun _ _ _ _ _ _ us hl => match us, hl with | [_, _, _, _], _ => rfl
  a_l_apart := f18
  d_l_apart := _
  F_l_apart := fun_mk (st := st_l_apart) l18 c18 k18
  m_l_apart := PySem.W.mg_of X G a18
  b_l_apart := (fun_mk (st := st_l_apart) l18 c18 k18).binds fun _ _ _ _ _ _ us hl => match us, hl with | [_], _ => rfl
  a_l_ways_due := f19
  d_l_ways_due := _
  F_l_ways_due := fun_mk (st := st_l_ways_due) l19 c19 k19
  m_l_ways_due := PySem.W.mg_of X G a19
  b_l_ways_due := (fun_mk (st := st_l_ways_due) l19 c19 k19).binds fun _ _ _ _ _ _ us hl => match us, hl with | [_, _, _, _], _ => rfl
  a_l_due := f20
  d_l_due := _
  F_l_due := fun_mk (st := st_l_due) l20 c20 k20
  m_l_due := PySem.W.mg_of X G a20
  b_l_due := (fun_mk (st := st_l_due) l20 c20 k20).binds fun _ _ _ _ _ _ us hl => match us, hl with | [_, _, _], _ => rfl
  a_l_judged := f21
  d_l_judged := _
  F_l_judged := fun_mk (st := st_l_judged) l21 c21 k21
  m_l_judged := PySem.W.mg_of X G a21
  b_l_judged := (fun_mk (st := st_l_judged) l21 c21 k21).binds fun _ _ _ _ _ _ us hl => match us, hl with | [_, _, _], _ => rfl
  a_l_odd := f22
  d_l_odd := _
  F_l_odd := fun_mk (st := st_l_odd) l22 c22 k22
  m_l_odd := PySem.W.mg_of X G a22
  b_l_odd := (fun_mk (st := st_l_odd) l22 c22 k22).binds fun _ _ _ _ _ _ us hl => match us, hl with | [_, _], _ => rfl
  a_l_side := f23
  d_l_side := _
  F_l_side := fun_mk (st := st_l_side) l23 c23 k23
  m_l_side := PySem.W.mg_of X G a23
  b_l_side := (fun_mk (st := st_l_side) l23 c23 k23).binds fun _ _ _ _ _ _ us hl => match us, hl with | [_, _, _, _], _ => rfl
  a_l_papers := f24
  d_l_papers := _
  F_l_papers := fun_mk (st := st_l_papers) l24 c24 k24
  m_l_papers := PySem.W.mg_of X G a24
  b_l_papers := (fun_mk (st := st_l_papers) l24 c24 k24).binds fun _ _ _ _ _ _ us hl => match us, hl with | [_, _, _], _ => rfl
  a_law := f25
  d_law := _
  F_law := fun_mk (st := st_law) l25 c25 k25
  m_law := PySem.W.mg_of X G a25
  b_law := (fun_mk (st := st_law) l25 c25 k25).binds fun _ _ _ _ _ _ us hl => match us, hl with | [_], _ => rfl
  n_isinstance := PySem.W.mg_none_of X G z_isinstance
  n_int := PySem.W.mg_none_of X G z_int
  n_bool := PySem.W.mg_none_of X G z_bool
  n_list := PySem.W.mg_none_of X G z_list
  n_all := PySem.W.mg_none_of X G z_all
  n_len := PySem.W.mg_none_of X G z_len
  n_tuple := PySem.W.mg_none_of X G z_tuple
  n_range := PySem.W.mg_none_of X G z_range
  n_min := PySem.W.mg_none_of X G z_min
  n_max := PySem.W.mg_none_of X G z_max
  n_set := PySem.W.mg_none_of X G z_set
  n_sorted := PySem.W.mg_none_of X G z_sorted
  n_ValueError := PySem.W.mg_none_of X G z_ValueError
  C_NoPaper := C_NoPaper
  E_NoPaper := ⟨PySem.W.mg_of X G u1_NoPaper, u1_NoPaper, u2_NoPaper, u3_NoPaper, ⟨u4_NoPaper, u5_NoPaper, u6_NoPaper, u7_NoPaper, u8_NoPaper, un, ut, u9_NoPaper⟩⟩
  Q_NoPaper := uQ_NoPaper
  C_PlyError := C_PlyError
  E_PlyError := ⟨PySem.W.mg_of X G u1_PlyError, u1_PlyError, u2_PlyError, u3_PlyError, ⟨u4_PlyError, u5_PlyError, u6_PlyError, u7_PlyError, u8_PlyError, un, ut, u9_PlyError⟩⟩
  C_Unlike := C_Unlike
  E_Unlike := ⟨PySem.W.mg_of X G u1_Unlike, u1_Unlike, u2_Unlike, u3_Unlike, ⟨u4_Unlike, u5_Unlike, u6_Unlike, u7_Unlike, u8_Unlike, un, ut, u9_Unlike⟩⟩
  C_NoTies := C_NoTies
  E_NoTies := ⟨PySem.W.mg_of X G u1_NoTies, u1_NoTies, u2_NoTies, u3_NoTies, ⟨u4_NoTies, u5_NoTies, u6_NoTies, u7_NoTies, u8_NoTies, un, ut, u9_NoTies⟩⟩
  C_NoText := C_NoText
  E_NoText := ⟨PySem.W.mg_of X G u1_NoText, u1_NoText, u2_NoText, u3_NoText, ⟨u4_NoText, u5_NoText, u6_NoText, u7_NoText, u8_NoText, un, ut, u9_NoText⟩⟩
  C_NoPair := C_NoPair
  E_NoPair := ⟨PySem.W.mg_of X G u1_NoPair, u1_NoPair, u2_NoPair, u3_NoPair, ⟨u4_NoPair, u5_NoPair, u6_NoPair, u7_NoPair, u8_NoPair, un, ut, u9_NoPair⟩⟩
  C_NoNet := C_NoNet
  E_NoNet := ⟨PySem.W.mg_of X G u1_NoNet, u1_NoNet, u2_NoNet, u3_NoNet, ⟨u4_NoNet, u5_NoNet, u6_NoNet, u7_NoNet, u8_NoNet, un, ut, u9_NoNet⟩⟩
  C_Clash := C_Clash
  E_Clash := ⟨PySem.W.mg_of X G u1_Clash, u1_Clash, u2_Clash, u3_Clash, ⟨u4_Clash, u5_Clash, u6_Clash, u7_Clash, u8_Clash, un, ut, u9_Clash⟩⟩
  S_NoPaper_PlyError := uS_NoPaper_PlyError
  S_NoPaper_NoPaper := uS_NoPaper_NoPaper
  S_NoPaper_ValueError := uS_NoPaper_ValueError
  S_NoPaper_Unlike := uS_NoPaper_Unlike
  S_NoPaper_NoTies := uS_NoPaper_NoTies
  S_NoPaper_NoText := uS_NoPaper_NoText
  S_NoPaper_NoPair := uS_NoPaper_NoPair
  S_NoPaper_NoNet := uS_NoPaper_NoNet
  S_NoPaper_Clash := uS_NoPaper_Clash
theorem all_mk {l : PySem.W.OpenLaw} {fa : Addr} (X : K.In h) (G : h.Ns mainGlobals mg) (hfa : mg "law" = some (.ref fa))
    {f0 : Addr} {od0 an0 : Option Addr} {sl0 : Array (Option Value)} {oc0 kV0 dc0 pm0 cd0 ct0 : Value}
        (a0 : PySem.W.nsIn K mainGlobals "is_whole" = some (some (.ref f0))) (l0 : K.lookup f0 = some ⟨oc0, od0, .func (PySem.W.fnOf "is_whole" "is_whole" (defArgs st_is_whole) (defBody st_is_whole) (defScope st_is_whole) .none kV0 dc0 pm0 an0 cd0 ct0), sl0⟩) (c0 : PySem.W.codeIn K cd0 "is_whole" = true) (k0 : PySem.W.keepIn K (.ref f0) = true)
    {f1 : Addr} {od1 an1 : Option Addr} {sl1 : Array (Option Value)} {oc1 kV1 dc1 pm1 cd1 ct1 : Value}
        (a1 : PySem.W.nsIn K mainGlobals "is_place" = some (some (.ref f1))) (l1 : K.lookup f1 = some ⟨oc1, od1, .func (PySem.W.fnOf "is_place" "is_place" (defArgs st_is_place) (defBody st_is_place) (defScope st_is_place) .none kV1 dc1 pm1 an1 cd1 ct1), sl1⟩) (c1 : PySem.W.codeIn K cd1 "is_place" = true) (k1 : PySem.W.keepIn K (.ref f1) = true)
    {f2 : Addr} {od2 an2 : Option Addr} {sl2 : Array (Option Value)} {oc2 kV2 dc2 pm2 cd2 ct2 : Value}
        (a2 : PySem.W.nsIn K mainGlobals "since" = some (some (.ref f2))) (l2 : K.lookup f2 = some ⟨oc2, od2, .func (PySem.W.fnOf "since" "since" (defArgs st_since) (defBody st_since) (defScope st_since) .none kV2 dc2 pm2 an2 cd2 ct2), sl2⟩) (c2 : PySem.W.codeIn K cd2 "since" = true) (k2 : PySem.W.keepIn K (.ref f2) = true)
    {f3 : Addr} {od3 an3 : Option Addr} {sl3 : Array (Option Value)} {oc3 kV3 dc3 pm3 cd3 ct3 : Value}
        (a3 : PySem.W.nsIn K mainGlobals "rim" = some (some (.ref f3))) (l3 : K.lookup f3 = some ⟨oc3, od3, .func (PySem.W.fnOf "rim" "rim" (defArgs st_rim) (defBody st_rim) (defScope st_rim) .none kV3 dc3 pm3 an3 cd3 ct3), sl3⟩) (c3 : PySem.W.codeIn K cd3 "rim" = true) (k3 : PySem.W.keepIn K (.ref f3) = true)
    {f4 : Addr} {od4 an4 : Option Addr} {sl4 : Array (Option Value)} {oc4 kV4 dc4 pm4 cd4 ct4 : Value}
        (a4 : PySem.W.nsIn K mainGlobals "way_right" = some (some (.ref f4))) (l4 : K.lookup f4 = some ⟨oc4, od4, .func (PySem.W.fnOf "way_right" "way_right" (defArgs st_way_right) (defBody st_way_right) (defScope st_way_right) .none kV4 dc4 pm4 an4 cd4 ct4), sl4⟩) (c4 : PySem.W.codeIn K cd4 "way_right" = true) (k4 : PySem.W.keepIn K (.ref f4) = true)
    {f5 : Addr} {od5 an5 : Option Addr} {sl5 : Array (Option Value)} {oc5 kV5 dc5 pm5 cd5 ct5 : Value}
        (a5 : PySem.W.nsIn K mainGlobals "are_apart" = some (some (.ref f5))) (l5 : K.lookup f5 = some ⟨oc5, od5, .func (PySem.W.fnOf "are_apart" "are_apart" (defArgs st_are_apart) (defBody st_are_apart) (defScope st_are_apart) .none kV5 dc5 pm5 an5 cd5 ct5), sl5⟩) (c5 : PySem.W.codeIn K cd5 "are_apart" = true) (k5 : PySem.W.keepIn K (.ref f5) = true)
    {f6 : Addr} {od6 an6 : Option Addr} {sl6 : Array (Option Value)} {oc6 kV6 dc6 pm6 cd6 ct6 : Value}
        (a6 : PySem.W.nsIn K mainGlobals "many_ways" = some (some (.ref f6))) (l6 : K.lookup f6 = some ⟨oc6, od6, .func (PySem.W.fnOf "many_ways" "many_ways" (defArgs st_many_ways) (defBody st_many_ways) (defScope st_many_ways) .none kV6 dc6 pm6 an6 cd6 ct6), sl6⟩) (c6 : PySem.W.codeIn K cd6 "many_ways" = true) (k6 : PySem.W.keepIn K (.ref f6) = true)
    {f7 : Addr} {od7 an7 : Option Addr} {sl7 : Array (Option Value)} {oc7 kV7 dc7 pm7 cd7 ct7 : Value}
        (a7 : PySem.W.nsIn K mainGlobals "is_side" = some (some (.ref f7))) (l7 : K.lookup f7 = some ⟨oc7, od7, .func (PySem.W.fnOf "is_side" "is_side" (defArgs st_is_side) (defBody st_is_side) (defScope st_is_side) .none kV7 dc7 pm7 an7 cd7 ct7), sl7⟩) (c7 : PySem.W.codeIn K cd7 "is_side" = true) (k7 : PySem.W.keepIn K (.ref f7) = true)
    {f8 : Addr} {od8 an8 : Option Addr} {sl8 : Array (Option Value)} {oc8 kV8 dc8 pm8 cd8 ct8 : Value}
        (a8 : PySem.W.nsIn K mainGlobals "judged_pair" = some (some (.ref f8))) (l8 : K.lookup f8 = some ⟨oc8, od8, .func (PySem.W.fnOf "judged_pair" "judged_pair" (defArgs st_judged_pair) (defBody st_judged_pair) (defScope st_judged_pair) .none kV8 dc8 pm8 an8 cd8 ct8), sl8⟩) (c8 : PySem.W.codeIn K cd8 "judged_pair" = true) (k8 : PySem.W.keepIn K (.ref f8) = true)
    {f9 : Addr} {od9 an9 : Option Addr} {sl9 : Array (Option Value)} {oc9 kV9 dc9 pm9 cd9 ct9 : Value}
        (a9 : PySem.W.nsIn K mainGlobals "judged_out" = some (some (.ref f9))) (l9 : K.lookup f9 = some ⟨oc9, od9, .func (PySem.W.fnOf "judged_out" "judged_out" (defArgs st_judged_out) (defBody st_judged_out) (defScope st_judged_out) .none kV9 dc9 pm9 an9 cd9 ct9), sl9⟩) (c9 : PySem.W.codeIn K cd9 "judged_out" = true) (k9 : PySem.W.keepIn K (.ref f9) = true)
    {f10 : Addr} {od10 an10 : Option Addr} {sl10 : Array (Option Value)} {oc10 kV10 dc10 pm10 cd10 ct10 : Value}
        (a10 : PySem.W.nsIn K mainGlobals "judged" = some (some (.ref f10))) (l10 : K.lookup f10 = some ⟨oc10, od10, .func (PySem.W.fnOf "judged" "judged" (defArgs st_judged) (defBody st_judged) (defScope st_judged) .none kV10 dc10 pm10 an10 cd10 ct10), sl10⟩) (c10 : PySem.W.codeIn K cd10 "judged" = true) (k10 : PySem.W.keepIn K (.ref f10) = true)
    {f11 : Addr} {od11 an11 : Option Addr} {sl11 : Array (Option Value)} {oc11 kV11 dc11 pm11 cd11 ct11 : Value}
        (a11 : PySem.W.nsIn K mainGlobals "_law_mixed" = some (some (.ref f11))) (l11 : K.lookup f11 = some ⟨oc11, od11, .func (PySem.W.fnOf "_law_mixed" "_law_mixed" (defArgs st_l_mixed) (defBody st_l_mixed) (defScope st_l_mixed) .none kV11 dc11 pm11 an11 cd11 ct11), sl11⟩) (c11 : PySem.W.codeIn K cd11 "_law_mixed" = true) (k11 : PySem.W.keepIn K (.ref f11) = true)
    {f12 : Addr} {od12 an12 : Option Addr} {sl12 : Array (Option Value)} {oc12 kV12 dc12 pm12 cd12 ct12 : Value}
        (a12 : PySem.W.nsIn K mainGlobals "_law_numbers" = some (some (.ref f12))) (l12 : K.lookup f12 = some ⟨oc12, od12, .func (PySem.W.fnOf "_law_numbers" "_law_numbers" (defArgs st_l_numbers) (defBody st_l_numbers) (defScope st_l_numbers) .none kV12 dc12 pm12 an12 cd12 ct12), sl12⟩) (c12 : PySem.W.codeIn K cd12 "_law_numbers" = true) (k12 : PySem.W.keepIn K (.ref f12) = true)
    {f13 : Addr} {od13 an13 : Option Addr} {sl13 : Array (Option Value)} {oc13 kV13 dc13 pm13 cd13 ct13 : Value}
        (a13 : PySem.W.nsIn K mainGlobals "_law_ends" = some (some (.ref f13))) (l13 : K.lookup f13 = some ⟨oc13, od13, .func (PySem.W.fnOf "_law_ends" "_law_ends" (defArgs st_l_ends) (defBody st_l_ends) (defScope st_l_ends) .none kV13 dc13 pm13 an13 cd13 ct13), sl13⟩) (c13 : PySem.W.codeIn K cd13 "_law_ends" = true) (k13 : PySem.W.keepIn K (.ref f13) = true)
    {f14 : Addr} {od14 an14 : Option Addr} {sl14 : Array (Option Value)} {oc14 kV14 dc14 pm14 cd14 ct14 : Value}
        (a14 : PySem.W.nsIn K mainGlobals "_law_record" = some (some (.ref f14))) (l14 : K.lookup f14 = some ⟨oc14, od14, .func (PySem.W.fnOf "_law_record" "_law_record" (defArgs st_l_record) (defBody st_l_record) (defScope st_l_record) .none kV14 dc14 pm14 an14 cd14 ct14), sl14⟩) (c14 : PySem.W.codeIn K cd14 "_law_record" = true) (k14 : PySem.W.keepIn K (.ref f14) = true)
    {f15 : Addr} {od15 an15 : Option Addr} {sl15 : Array (Option Value)} {oc15 kV15 dc15 pm15 cd15 ct15 : Value}
        (a15 : PySem.W.nsIn K mainGlobals "_law_great" = some (some (.ref f15))) (l15 : K.lookup f15 = some ⟨oc15, od15, .func (PySem.W.fnOf "_law_great" "_law_great" (defArgs st_l_great) (defBody st_l_great) (defScope st_l_great) .none kV15 dc15 pm15 an15 cd15 ct15), sl15⟩) (c15 : PySem.W.codeIn K cd15 "_law_great" = true) (k15 : PySem.W.keepIn K (.ref f15) = true)
    {f16 : Addr} {od16 an16 : Option Addr} {sl16 : Array (Option Value)} {oc16 kV16 dc16 pm16 cd16 ct16 : Value}
        (a16 : PySem.W.nsIn K mainGlobals "_law_went" = some (some (.ref f16))) (l16 : K.lookup f16 = some ⟨oc16, od16, .func (PySem.W.fnOf "_law_went" "_law_went" (defArgs st_l_went) (defBody st_l_went) (defScope st_l_went) .none kV16 dc16 pm16 an16 cd16 ct16), sl16⟩) (c16 : PySem.W.codeIn K cd16 "_law_went" = true) (k16 : PySem.W.keepIn K (.ref f16) = true)
    {f17 : Addr} {od17 an17 : Option Addr} {sl17 : Array (Option Value)} {oc17 kV17 dc17 pm17 cd17 ct17 : Value}
        (a17 : PySem.W.nsIn K mainGlobals "_law_leads" = some (some (.ref f17))) (l17 : K.lookup f17 = some ⟨oc17, od17, .func (PySem.W.fnOf "_law_leads" "_law_leads" (defArgs st_l_leads) (defBody st_l_leads) (defScope st_l_leads) .none kV17 dc17 pm17 an17 cd17 ct17), sl17⟩) (c17 : PySem.W.codeIn K cd17 "_law_leads" = true) (k17 : PySem.W.keepIn K (.ref f17) = true)
    {f18 : Addr} {od18 an18 : Option Addr} {sl18 : Array (Option Value)} {oc18 kV18 dc18 pm18 cd18 ct18 : Value}
        (a18 : PySem.W.nsIn K mainGlobals "_law_apart" = some (some (.ref f18))) (l18 : K.lookup f18 = some ⟨oc18, od18, .func (PySem.W.fnOf "_law_apart" "_law_apart" (defArgs st_l_apart) (defBody st_l_apart) (defScope st_l_apart) .none kV18 dc18 pm18 an18 cd18 ct18), sl18⟩) (c18 : PySem.W.codeIn K cd18 "_law_apart" = true) (k18 : PySem.W.keepIn K (.ref f18) = true)
    {f19 : Addr} {od19 an19 : Option Addr} {sl19 : Array (Option Value)} {oc19 kV19 dc19 pm19 cd19 ct19 : Value}
        (a19 : PySem.W.nsIn K mainGlobals "_law_ways_due" = some (some (.ref f19))) (l19 : K.lookup f19 = some ⟨oc19, od19, .func (PySem.W.fnOf "_law_ways_due" "_law_ways_due" (defArgs st_l_ways_due) (defBody st_l_ways_due) (defScope st_l_ways_due) .none kV19 dc19 pm19 an19 cd19 ct19), sl19⟩) (c19 : PySem.W.codeIn K cd19 "_law_ways_due" = true) (k19 : PySem.W.keepIn K (.ref f19) = true)
    {f20 : Addr} {od20 an20 : Option Addr} {sl20 : Array (Option Value)} {oc20 kV20 dc20 pm20 cd20 ct20 : Value}
        (a20 : PySem.W.nsIn K mainGlobals "_law_due" = some (some (.ref f20))) (l20 : K.lookup f20 = some ⟨oc20, od20, .func (PySem.W.fnOf "_law_due" "_law_due" (defArgs st_l_due) (defBody st_l_due) (defScope st_l_due) .none kV20 dc20 pm20 an20 cd20 ct20), sl20⟩) (c20 : PySem.W.codeIn K cd20 "_law_due" = true) (k20 : PySem.W.keepIn K (.ref f20) = true)
    {f21 : Addr} {od21 an21 : Option Addr} {sl21 : Array (Option Value)} {oc21 kV21 dc21 pm21 cd21 ct21 : Value}
        (a21 : PySem.W.nsIn K mainGlobals "_law_judged" = some (some (.ref f21))) (l21 : K.lookup f21 = some ⟨oc21, od21, .func (PySem.W.fnOf "_law_judged" "_law_judged" (defArgs st_l_judged) (defBody st_l_judged) (defScope st_l_judged) .none kV21 dc21 pm21 an21 cd21 ct21), sl21⟩) (c21 : PySem.W.codeIn K cd21 "_law_judged" = true) (k21 : PySem.W.keepIn K (.ref f21) = true)
    {f22 : Addr} {od22 an22 : Option Addr} {sl22 : Array (Option Value)} {oc22 kV22 dc22 pm22 cd22 ct22 : Value}
        (a22 : PySem.W.nsIn K mainGlobals "_law_odd" = some (some (.ref f22))) (l22 : K.lookup f22 = some ⟨oc22, od22, .func (PySem.W.fnOf "_law_odd" "_law_odd" (defArgs st_l_odd) (defBody st_l_odd) (defScope st_l_odd) .none kV22 dc22 pm22 an22 cd22 ct22), sl22⟩) (c22 : PySem.W.codeIn K cd22 "_law_odd" = true) (k22 : PySem.W.keepIn K (.ref f22) = true)
    {f23 : Addr} {od23 an23 : Option Addr} {sl23 : Array (Option Value)} {oc23 kV23 dc23 pm23 cd23 ct23 : Value}
        (a23 : PySem.W.nsIn K mainGlobals "_law_side" = some (some (.ref f23))) (l23 : K.lookup f23 = some ⟨oc23, od23, .func (PySem.W.fnOf "_law_side" "_law_side" (defArgs st_l_side) (defBody st_l_side) (defScope st_l_side) .none kV23 dc23 pm23 an23 cd23 ct23), sl23⟩) (c23 : PySem.W.codeIn K cd23 "_law_side" = true) (k23 : PySem.W.keepIn K (.ref f23) = true)
    {f24 : Addr} {od24 an24 : Option Addr} {sl24 : Array (Option Value)} {oc24 kV24 dc24 pm24 cd24 ct24 : Value}
        (a24 : PySem.W.nsIn K mainGlobals "_law_papers" = some (some (.ref f24))) (l24 : K.lookup f24 = some ⟨oc24, od24, .func (PySem.W.fnOf "_law_papers" "_law_papers" (defArgs st_l_papers) (defBody st_l_papers) (defScope st_l_papers) .none kV24 dc24 pm24 an24 cd24 ct24), sl24⟩) (c24 : PySem.W.codeIn K cd24 "_law_papers" = true) (k24 : PySem.W.keepIn K (.ref f24) = true)
    {f25 : Addr} {od25 an25 : Option Addr} {sl25 : Array (Option Value)} {oc25 kV25 dc25 pm25 cd25 ct25 : Value}
        (a25 : PySem.W.nsIn K mainGlobals "law" = some (some (.ref f25))) (l25 : K.lookup f25 = some ⟨oc25, od25, .func (PySem.W.fnOf "law" "law" (defArgs st_law) (defBody st_law) (defScope st_law) .none kV25 dc25 pm25 an25 cd25 ct25), sl25⟩) (c25 : PySem.W.codeIn K cd25 "law" = true) (k25 : PySem.W.keepIn K (.ref f25) = true)
        (z_isinstance : PySem.W.nsIn K mainGlobals "isinstance" = some none)
        (z_int : PySem.W.nsIn K mainGlobals "int" = some none)
        (z_bool : PySem.W.nsIn K mainGlobals "bool" = some none)
        (z_list : PySem.W.nsIn K mainGlobals "list" = some none)
        (z_all : PySem.W.nsIn K mainGlobals "all" = some none)
        (z_len : PySem.W.nsIn K mainGlobals "len" = some none)
        (z_tuple : PySem.W.nsIn K mainGlobals "tuple" = some none)
        (z_range : PySem.W.nsIn K mainGlobals "range" = some none)
        (z_min : PySem.W.nsIn K mainGlobals "min" = some none)
        (z_max : PySem.W.nsIn K mainGlobals "max" = some none)
        (z_set : PySem.W.nsIn K mainGlobals "set" = some none)
        (z_sorted : PySem.W.nsIn K mainGlobals "sorted" = some none)
        (z_ValueError : PySem.W.nsIn K mainGlobals "ValueError" = some none)
        {C_NoPaper : Addr} (u1_NoPaper : PySem.W.nsIn K mainGlobals "NoPaper" = some (some (.ref C_NoPaper))) (u2_NoPaper : PySem.W.keepIn K (.ref C_NoPaper) = true) (u3_NoPaper : PySem.W.typeIn K (.ref C_NoPaper) = some (.type "type"))
        (u4_NoPaper : PySem.W.findIn K (.ref C_NoPaper) "__getattribute__" = some (some (.builtin "BaseException.__getattribute__"))) (u5_NoPaper : PySem.W.findIn K (.ref C_NoPaper) "__getattr__" = some none) (u6_NoPaper : PySem.W.subIn K (.ref C_NoPaper) (.type "BaseException") = some true) (u7_NoPaper : PySem.W.hasDictIn K C_NoPaper = true) (u8_NoPaper : PySem.W.findIn K (.ref C_NoPaper) "__class__" = some (some (.builtin "object.__class__"))) (u9_NoPaper : PySem.W.mroIn K C_NoPaper (.type "object") = some true)
        (uQ_NoPaper : PySem.W.excIn K C_NoPaper veB "ValueError.__new__" = true)
        {C_PlyError : Addr} (u1_PlyError : PySem.W.nsIn K mainGlobals "PlyError" = some (some (.ref C_PlyError))) (u2_PlyError : PySem.W.keepIn K (.ref C_PlyError) = true) (u3_PlyError : PySem.W.typeIn K (.ref C_PlyError) = some (.type "type"))
        (u4_PlyError : PySem.W.findIn K (.ref C_PlyError) "__getattribute__" = some (some (.builtin "BaseException.__getattribute__"))) (u5_PlyError : PySem.W.findIn K (.ref C_PlyError) "__getattr__" = some none) (u6_PlyError : PySem.W.subIn K (.ref C_PlyError) (.type "BaseException") = some true) (u7_PlyError : PySem.W.hasDictIn K C_PlyError = true) (u8_PlyError : PySem.W.findIn K (.ref C_PlyError) "__class__" = some (some (.builtin "object.__class__"))) (u9_PlyError : PySem.W.mroIn K C_PlyError (.type "object") = some true)
        {C_Unlike : Addr} (u1_Unlike : PySem.W.nsIn K mainGlobals "Unlike" = some (some (.ref C_Unlike))) (u2_Unlike : PySem.W.keepIn K (.ref C_Unlike) = true) (u3_Unlike : PySem.W.typeIn K (.ref C_Unlike) = some (.type "type"))
        (u4_Unlike : PySem.W.findIn K (.ref C_Unlike) "__getattribute__" = some (some (.builtin "BaseException.__getattribute__"))) (u5_Unlike : PySem.W.findIn K (.ref C_Unlike) "__getattr__" = some none) (u6_Unlike : PySem.W.subIn K (.ref C_Unlike) (.type "BaseException") = some true) (u7_Unlike : PySem.W.hasDictIn K C_Unlike = true) (u8_Unlike : PySem.W.findIn K (.ref C_Unlike) "__class__" = some (some (.builtin "object.__class__"))) (u9_Unlike : PySem.W.mroIn K C_Unlike (.type "object") = some true)
        {C_NoTies : Addr} (u1_NoTies : PySem.W.nsIn K mainGlobals "NoTies" = some (some (.ref C_NoTies))) (u2_NoTies : PySem.W.keepIn K (.ref C_NoTies) = true) (u3_NoTies : PySem.W.typeIn K (.ref C_NoTies) = some (.type "type"))
        (u4_NoTies : PySem.W.findIn K (.ref C_NoTies) "__getattribute__" = some (some (.builtin "BaseException.__getattribute__"))) (u5_NoTies : PySem.W.findIn K (.ref C_NoTies) "__getattr__" = some none) (u6_NoTies : PySem.W.subIn K (.ref C_NoTies) (.type "BaseException") = some true) (u7_NoTies : PySem.W.hasDictIn K C_NoTies = true) (u8_NoTies : PySem.W.findIn K (.ref C_NoTies) "__class__" = some (some (.builtin "object.__class__"))) (u9_NoTies : PySem.W.mroIn K C_NoTies (.type "object") = some true)
        {C_NoText : Addr} (u1_NoText : PySem.W.nsIn K mainGlobals "NoText" = some (some (.ref C_NoText))) (u2_NoText : PySem.W.keepIn K (.ref C_NoText) = true) (u3_NoText : PySem.W.typeIn K (.ref C_NoText) = some (.type "type"))
        (u4_NoText : PySem.W.findIn K (.ref C_NoText) "__getattribute__" = some (some (.builtin "BaseException.__getattribute__"))) (u5_NoText : PySem.W.findIn K (.ref C_NoText) "__getattr__" = some none) (u6_NoText : PySem.W.subIn K (.ref C_NoText) (.type "BaseException") = some true) (u7_NoText : PySem.W.hasDictIn K C_NoText = true) (u8_NoText : PySem.W.findIn K (.ref C_NoText) "__class__" = some (some (.builtin "object.__class__"))) (u9_NoText : PySem.W.mroIn K C_NoText (.type "object") = some true)
        {C_NoPair : Addr} (u1_NoPair : PySem.W.nsIn K mainGlobals "NoPair" = some (some (.ref C_NoPair))) (u2_NoPair : PySem.W.keepIn K (.ref C_NoPair) = true) (u3_NoPair : PySem.W.typeIn K (.ref C_NoPair) = some (.type "type"))
        (u4_NoPair : PySem.W.findIn K (.ref C_NoPair) "__getattribute__" = some (some (.builtin "BaseException.__getattribute__"))) (u5_NoPair : PySem.W.findIn K (.ref C_NoPair) "__getattr__" = some none) (u6_NoPair : PySem.W.subIn K (.ref C_NoPair) (.type "BaseException") = some true) (u7_NoPair : PySem.W.hasDictIn K C_NoPair = true) (u8_NoPair : PySem.W.findIn K (.ref C_NoPair) "__class__" = some (some (.builtin "object.__class__"))) (u9_NoPair : PySem.W.mroIn K C_NoPair (.type "object") = some true)
        {C_NoNet : Addr} (u1_NoNet : PySem.W.nsIn K mainGlobals "NoNet" = some (some (.ref C_NoNet))) (u2_NoNet : PySem.W.keepIn K (.ref C_NoNet) = true) (u3_NoNet : PySem.W.typeIn K (.ref C_NoNet) = some (.type "type"))
        (u4_NoNet : PySem.W.findIn K (.ref C_NoNet) "__getattribute__" = some (some (.builtin "BaseException.__getattribute__"))) (u5_NoNet : PySem.W.findIn K (.ref C_NoNet) "__getattr__" = some none) (u6_NoNet : PySem.W.subIn K (.ref C_NoNet) (.type "BaseException") = some true) (u7_NoNet : PySem.W.hasDictIn K C_NoNet = true) (u8_NoNet : PySem.W.findIn K (.ref C_NoNet) "__class__" = some (some (.builtin "object.__class__"))) (u9_NoNet : PySem.W.mroIn K C_NoNet (.type "object") = some true)
        {C_Clash : Addr} (u1_Clash : PySem.W.nsIn K mainGlobals "Clash" = some (some (.ref C_Clash))) (u2_Clash : PySem.W.keepIn K (.ref C_Clash) = true) (u3_Clash : PySem.W.typeIn K (.ref C_Clash) = some (.type "type"))
        (u4_Clash : PySem.W.findIn K (.ref C_Clash) "__getattribute__" = some (some (.builtin "BaseException.__getattribute__"))) (u5_Clash : PySem.W.findIn K (.ref C_Clash) "__getattr__" = some none) (u6_Clash : PySem.W.subIn K (.ref C_Clash) (.type "BaseException") = some true) (u7_Clash : PySem.W.hasDictIn K C_Clash = true) (u8_Clash : PySem.W.findIn K (.ref C_Clash) "__class__" = some (some (.builtin "object.__class__"))) (u9_Clash : PySem.W.mroIn K C_Clash (.type "object") = some true)
        (un : PySem.W.specialIn K (.builtin "object.__class__") "__get__" = some (some (.builtin "getset_descriptor.__get__"))) (ut : PySem.W.takesIn K (.builtin "object.__class__") = some true)
        (uS_NoPaper_PlyError : PySem.W.subIn K (.ref C_NoPaper) (.ref C_PlyError) = some true)
        (uS_NoPaper_NoPaper : PySem.W.subIn K (.ref C_NoPaper) (.ref C_NoPaper) = some true)
        (uS_NoPaper_ValueError : PySem.W.subIn K (.ref C_NoPaper) (.type "ValueError") = some true)
        (uS_NoPaper_Unlike : PySem.W.subIn K (.ref C_NoPaper) (.ref C_Unlike) = some false)
        (uS_NoPaper_NoTies : PySem.W.subIn K (.ref C_NoPaper) (.ref C_NoTies) = some false)
        (uS_NoPaper_NoText : PySem.W.subIn K (.ref C_NoPaper) (.ref C_NoText) = some false)
        (uS_NoPaper_NoPair : PySem.W.subIn K (.ref C_NoPaper) (.ref C_NoPair) = some false)
        (uS_NoPaper_NoNet : PySem.W.subIn K (.ref C_NoPaper) (.ref C_NoNet) = some false)
        (uS_NoPaper_Clash : PySem.W.subIn K (.ref C_NoPaper) (.ref C_Clash) = some false) :
    ∃ fd : FuncData, (∀ (s : Shared) (v : Value), BindsTo s fd ⟨[v], []⟩ [("script", v)]) ∧ ∀ base : Heap, K.In base → base.Ns mainGlobals mg → FnOk l.prog w K mg base CX0 7 fa fd ["script"] (spG K mg 1 f_law) := by
  have e := hfa.symm.trans (PySem.W.mg_of X G a25)
  cases e
  exact ⟨_, fun s v => .of_eq rfl, fun base _ _ => ok_law (mkTx X G a0 l0 c0 k0 a1 l1 c1 k1 a2 l2 c2 k2 a3 l3 c3 k3 a4 l4 c4 k4 a5 l5 c5 k5 a6 l6 c6 k6 a7 l7 c7 k7 a8 l8 c8 k8 a9 l9 c9 k9 a10 l10 c10 k10 a11 l11 c11 k11 a12 l12 c12 k12 a13 l13 c13 k13 a14 l14 c14 k14 a15 l15 c15 k15 a16 l16 c16 k16 a17 l17 c17 k17 a18 l18 c18 k18 a19 l19 c19 k19 a20 l20 c20 k20 a21 l21 c21 k21 a22 l22 c22 k22 a23 l23 c23 k23 a24 l24 c24 k24 a25 l25 c25 k25 z_isinstance z_int z_bool z_list z_all z_len z_tuple z_range z_min z_max z_set z_sorted z_ValueError u1_NoPaper u2_NoPaper u3_NoPaper u4_NoPaper u5_NoPaper u6_NoPaper u7_NoPaper u8_NoPaper u9_NoPaper uQ_NoPaper u1_PlyError u2_PlyError u3_PlyError u4_PlyError u5_PlyError u6_PlyError u7_PlyError u8_PlyError u9_PlyError u1_Unlike u2_Unlike u3_Unlike u4_Unlike u5_Unlike u6_Unlike u7_Unlike u8_Unlike u9_Unlike u1_NoTies u2_NoTies u3_NoTies u4_NoTies u5_NoTies u6_NoTies u7_NoTies u8_NoTies u9_NoTies u1_NoText u2_NoText u3_NoText u4_NoText u5_NoText u6_NoText u7_NoText u8_NoText u9_NoText u1_NoPair u2_NoPair u3_NoPair u4_NoPair u5_NoPair u6_NoPair u7_NoPair u8_NoPair u9_NoPair u1_NoNet u2_NoNet u3_NoNet u4_NoNet u5_NoNet u6_NoNet u7_NoNet u8_NoNet u9_NoNet u1_Clash u2_Clash u3_Clash u4_Clash u5_Clash u6_Clash u7_Clash u8_Clash u9_Clash un ut uS_NoPaper_PlyError uS_NoPaper_NoPaper uS_NoPaper_ValueError uS_NoPaper_Unlike uS_NoPaper_NoTies uS_NoPaper_NoText uS_NoPaper_NoPair uS_NoPaper_NoNet uS_NoPaper_Clash)⟩
end
end K58
end T_K58

section T_K58P
set_option linter.all false
set_option maxRecDepth 100000
set_option maxHeartbeats 4000000
namespace K58
open PySem Sim FamA K59

theorem ix3_0 (t : T3) : hIx (enc3 t) (.int 0) = .ok (.int t.1) := rfl
theorem ix3_1 (t : T3) : hIx (enc3 t) (.int 1) = .ok (.int t.2.1) := rfl
theorem ix3_2 (t : T3) : hIx (enc3 t) (.int 2) = .ok (.int t.2.2) := rfl
/-- a tie in the dict -/
def dE (t : T3) : Dt × Dt := (.int t.1, .tuple [.int t.2.1, .int t.2.2])
def encD (l : List T3) : Dt := .dict (l.map dE)
theorem dGet_enc (m : Int) : ∀ l : List T3, dGet (l.map dE) (.inl m) = (l.find? fun t => t.1 == m).map fun t => (dE t).2
  | [] => rfl
  | t :: l => by
    have ih := dGet_enc m l
    unfold dGet at ih ⊢
    rw [List.map_cons, List.find?_cons, List.find?_cons]
    have e : isK (.inl m) (dE t).1 = (t.1 == m) := by
      show decide (t.1 = m) = (t.1 == m)
      by_cases c : t.1 = m <;> simp [c]
    rw [e]
    cases (t.1 == m)
    · exact ih
    · rfl
theorem dPut_enc (m : Int) (v : Dt) (l : List T3) (h : ∀ t ∈ l, t.1 ≠ m) : dPut (l.map dE) (.inl m) v = l.map dE ++ [(.int m, v)] := by
  unfold dPut
  rw [if_neg]
  · rfl
  · intro z
    obtain ⟨x, hx, e⟩ := List.any_eq_true.mp z
    obtain ⟨t, ht, rfl⟩ := List.mem_map.mp hx
    exact h t ht (of_decide_eq_true e)
theorem dDrop_enc (m : Int) : ∀ l : List T3, dDrop (l.map dE) (.inl m) = (l.filter fun t => !(t.1 == m)).map dE
  | [] => rfl
  | t :: l => by
    have ih := dDrop_enc m l
    unfold dDrop at ih ⊢
    rw [List.map_cons, List.filter_cons, List.filter_cons, ih]
    have e : isK (.inl m) (dE t).1 = (t.1 == m) := by
      show decide (t.1 = m) = (t.1 == m)
      by_cases c : t.1 = m <;> simp [c]
    rw [e]
    cases (t.1 == m) <;> rfl
/-- what is left in the dict -/
def rem (r : List T3) (used : List Int) : List T3 := r.filter fun t => ne3 t && !decide (t.1 ∈ used)
theorem rem_find (m : Int) (used : List Int) : ∀ r : List T3, ((rem r used).find? fun t => t.1 == m) = if m ∈ used then none else tieOf r m
  | [] => by simp [rem, tieOf]
  | t :: r => by
    have ih := rem_find m used r
    unfold rem tieOf at ih ⊢
    rw [List.filter_cons, List.find?_cons]
    by_cases c : t.1 = m
    · by_cases u : m ∈ used
      · rw [if_pos u] at ih ⊢
        rw [c]
        simp only [u, decide_true, Bool.not_true, Bool.and_false, Bool.false_eq_true, if_false]
        exact ih
      · rw [if_neg u] at ih ⊢
        cases hn : ne3 t with
        | true =>
          rw [c]
          simp [u, List.find?_cons, c]
        | false =>
          simp only [Bool.false_and, Bool.and_false, Bool.false_eq_true, if_false]
          exact ih
    · have e : (t.1 == m) = false := by simp [c]
      rw [e, Bool.false_and]
      by_cases k : (ne3 t && !decide (t.1 ∈ used)) = true
      · rw [if_pos k, List.find?_cons, e]
        exact ih
      · rw [if_neg k]
        exact ih
theorem rem_cons (r : List T3) (m : Int) (used : List Int) : (rem r used).filter (fun t => !(t.1 == m)) = rem r (m :: used) := by
  unfold rem
  rw [List.filter_filter]
  refine List.filter_congr fun t _ => ?_
  by_cases c : t.1 = m
  · simp [c]
  · simp [c]
theorem rem_nil (r : List T3) : rem r [] = r.filter ne3 := by
  unfold rem
  refine List.filter_congr fun t _ => ?_
  simp
/-- the dict is filled -/
theorem fill_ok {r : List T3} (ho : r.Pairwise fun s t => s.1 < t.1) (hl : r.length ≤ 60) (a b w x5 x6 x7 x8 : Dt) :
    ∃ y5 y6 y7, gFor (gSeq (gVar 0)) (tgT (tgCons (tgN 5) (tgCons (tgN 6) (tgCons (tgN 7) (tgNil))))) g_way_right_L1 [.list (r.map enc3), a, b, w, encD [], x5, x6, x7, x8]
      = .ok (.nx [.list (r.map enc3), a, b, w, encD (rem r []), y5, y6, y7, x8]) := by
  obtain ⟨ρ', hf, y5, y6, y7, rfl⟩ := forE_ix enc3 (h := tgT (tgCons (tgN 5) (tgCons (tgN 6) (tgCons (tgN 7) (tgNil))))) (b := g_way_right_L1) r
    (fun i ρ => ∃ y5 y6 y7, ρ = [.list (r.map enc3), a, b, w, encD ((r.take i).filter ne3), y5, y6, y7, x8])
    (ρ := [.list (r.map enc3), a, b, w, encD [], x5, x6, x7, x8]) ⟨_, _, _, rfl⟩ (by
      rintro i ρ hi ⟨y5, y6, y7, rfl⟩
      have es : r.take (i + 1) = r.take i ++ [r[i]] := by
        rw [List.take_add_one, List.getElem?_eq_getElem hi]
        rfl
      have hlt : ∀ t ∈ (r.take i).filter ne3, t.1 ≠ r[i].1 := fun t ht => by
        obtain ⟨j, hj, e⟩ := List.getElem_of_mem (List.mem_filter.mp ht).1
        rw [List.length_take] at hj
        rw [List.getElem_take] at e
        have := List.pairwise_iff_getElem.mp ho j i (by omega) hi (by omega)
        rw [← e]
        omega
      have lt : ((r.take i).filter ne3).length ≤ 60 := by
        refine Nat.le_trans (List.length_filter_le _ _) ?_
        rw [List.length_take]
        omega
      rw [es]
      generalize r.take i = q at *
      generalize r[i] = t at *
      refine ⟨_, _, rfl, .inl ?_, .int t.1, .int t.2.1, .int t.2.2, rfl⟩
      have ef : (q ++ [t]).filter ne3 = if ne3 t then q.filter ne3 ++ [t] else q.filter ne3 := by
        rw [List.filter_append]
        cases hn : ne3 t <;> simp [hn]
      rw [ef]
      unfold g_way_right_L1
      have hne : gTest (gOp hNe (gVar 6) (gVar 7)) [.list (r.map enc3), a, b, w, encD (q.filter ne3), .int t.1, .int t.2.1, .int t.2.2, x8] = .ok (ne3 t) := by
        simp only [bnd_ok, gVar_def, gC_def, gOp_def, gUn_def, gNil_def, gCons_def, gIf_def, gTest_def, gNot_def, gAnd_def, gOr_def, gAndV_def, gOrV_def, gNotV_def, gCB_def, asB_b, hAdd_i, hSub_i, hLt_i, hLe_i, hGt_i, hGe_i, hMul_r, hMul_l, hMod_i, hDiv_s, hBand_i, hShr_i, hPow_10_18, hPow_10_27, hPow_10_28, hPow_10_29, hPow_10_30, hEq_i, hNe_i, hLen_l, hLen_t, hMin2_i, hMax2_i, hMin3_i, hInt1_b, hInt1_i, hBits_i, hListOf_l, hListOf_t, hTupOf_l, hTupOf_t, gSeqS_def, gSet_def, gRet_def, gIfS_def, gNext_def, gTup_def, gLst_def, List.getElem?_cons_zero, List.getElem?_cons_succ, List.set_cons_zero, List.set_cons_succ, List.length_cons, List.length_nil, Nat.zero_add, Nat.reduceAdd, Nat.reduceLeDiff, Nat.reduceSub, Nat.reduceMul, if_true, if_false, Bool.false_eq_true, List.replicate_succ, List.replicate_zero, List.cons_append, List.nil_append, tgN, tgT, tgCons, tgNil, Int.reducePow, Int.reduceAdd, Int.reduceSub, Int.reduceMul, decide_true, decide_false, Bool.not_true, Bool.not_false, gChain_def, hIsa_int, hIsa_intb, hIsa_list, hIsa_tuple, gDrop_def]
        rfl
      cases hn : ne3 t with
      | true =>
        rw [hn] at hne
        refine (if_t hne).trans ?_
        have hput := dPut_enc t.1 (.tuple [.int t.2.1, .int t.2.2]) (q.filter ne3) hlt
        have e1 : gTup (gCons (gVar 6) (gCons (gVar 7) (gNil))) [.list (r.map enc3), a, b, w, encD (q.filter ne3), .int t.1, .int t.2.1, .int t.2.2, x8] = .ok (.tuple [.int t.2.1, .int t.2.2]) := by
          exact gTup_ok (xs := [.int t.2.1, .int t.2.2]) (by rfl) (by simp)
        unfold gDPut
        rw [e1, bnd_ok]
        have e2 : dAt [.list (r.map enc3), a, b, w, encD (q.filter ne3), .int t.1, .int t.2.1, .int t.2.2, x8] 4 = some ((q.filter ne3).map dE) := rfl
        have e3 : gVar 5 [.list (r.map enc3), a, b, w, encD (q.filter ne3), .int t.1, .int t.2.1, .int t.2.2, x8] = .ok (.int t.1) := rfl
        have e4 : keyOf (.int t.1) = some (.inl t.1) := rfl
        simp only [e2, e3, bnd_ok, e4, hput, List.length_map]
        rw [if_pos (by omega)]
        have e5 : (q.filter ne3).map dE ++ [(PyData.int t.1, PyData.tuple [.int t.2.1, .int t.2.2])] = (q.filter ne3 ++ [t]).map dE := by rw [List.map_append]; rfl
        rw [e5]
        rfl
      | false =>
        rw [hn] at hne
        exact (if_f hne).trans rfl)
  rw [List.take_length, ← rem_nil] at hf
  exact ⟨y5, y6, y7, for_ok (ds := r.map enc3) rfl hf⟩
theorem on_mem (t : T3) (p : Int) : decide (p ∈ [t.2.1, t.2.2]) = on t p := by
  unfold on
  by_cases c1 : p = t.2.1 <;> by_cases c2 : p = t.2.2 <;> simp [c1, c2]
theorem walk_ok (r : List T3) (R a b w : Dt) : ∀ (ms used : List Int) (p : Int) (x5 x6 x7 : Dt),
    match go r used p ms with
    | some q => ∃ d y5 y6 y7, forE (tgN 5) g_way_right_L2 (ms.map .int) [R, a, b, w, encD (rem r used), x5, x6, x7, .int p] = .ok (.nx [R, a, b, w, d, y5, y6, y7, .int q])
    | none => forE (tgN 5) g_way_right_L2 (ms.map .int) [R, a, b, w, encD (rem r used), x5, x6, x7, .int p] = .ok (.rt (.bool false))
  | [], used, p, x5, x6, x7 => ⟨_, _, _, _, rfl⟩
  | m :: ms, used, p, x5, x6, x7 => by
    have hg := dGet_enc m (rem r used)
    rw [rem_find] at hg
    have ed : ∀ x6 x7, dAt [R, a, b, w, encD (rem r used), .int m, x6, x7, .int p] 4 = some ((rem r used).map dE) := fun _ _ => rfl
    have e5 : ∀ D x6 x7 x8, gVar 5 [R, a, b, w, D, .int m, x6, x7, x8] = .ok (.int m) := fun _ _ _ _ => rfl
    have ek : keyOf (.int m) = some (.inl m) := rfl
    have din : gDIn true 4 (gVar 5) [R, a, b, w, encD (rem r used), .int m, x6, x7, .int p] = .ok (.bool (!(dGet ((rem r used).map dE) (.inl m)).isSome)) := by
      unfold gDIn
      simp only [e5, bnd_ok, ed, ek, if_true]
    rw [List.map_cons]
    unfold forE
    have et : tgN 5 (.int m) [R, a, b, w, encD (rem r used), x5, x6, x7, .int p] = .ok [R, a, b, w, encD (rem r used), .int m, x6, x7, .int p] := rfl
    rw [et]
    have none_case : dGet ((rem r used).map dE) (.inl m) = none → g_way_right_L2 [R, a, b, w, encD (rem r used), .int m, x6, x7, .int p] = .ok (.rt (.bool false)) := fun z => by
      unfold g_way_right_L2
      refine seq_rt ?_
      rw [if_t]
      · rfl
      · rw [gOr_def, gTest_def, din, z, bnd_ok]
        rfl
    unfold go
    by_cases c : m ∈ used
    · rw [if_pos c] at hg ⊢
      simp only [none_case hg, bnd_ok]
    · rw [if_neg c] at hg ⊢
      cases ht : tieOf r m with
      | none =>
        rw [ht] at hg
        simp only [none_case hg, bnd_ok]
      | some t =>
        rw [ht] at hg
        have hg : dGet ((rem r used).map dE) (.inl m) = some (.tuple [.int t.2.1, .int t.2.2]) := hg
        have dget : gDGet 4 (gVar 5) [R, a, b, w, encD (rem r used), .int m, x6, x7, .int p] = .ok (.tuple [.int t.2.1, .int t.2.2]) := by
          unfold gDGet
          simp only [e5, bnd_ok, ed, ek, hg]
        have hni : hNotIn (.int p) (.tuple [.int t.2.1, .int t.2.2]) = .ok (.bool (!on t p)) := by
          have := hNotIn_intsT p [t.2.1, t.2.2]
          rw [on_mem] at this
          exact this
        have test : gOr (gTest (gDIn true 4 (gVar 5))) (gTest (gOp hNotIn (gVar 8) (gDGet 4 (gVar 5)))) [R, a, b, w, encD (rem r used), .int m, x6, x7, .int p] = .ok (!on t p) := by
          rw [gOr_def, gTest_def, din, hg, bnd_ok, gTest_def, gOp_def, dget]
          show bnd (bnd (hNotIn (.int p) (.tuple [.int t.2.1, .int t.2.2])) asB) _ = _ <;> rw [hni] <;> rfl
        simp only
        cases ho : on t p with
        | false =>
          rw [ho] at test
          have : g_way_right_L2 [R, a, b, w, encD (rem r used), .int m, x6, x7, .int p] = .ok (.rt (.bool false)) := by
            unfold g_way_right_L2
            refine seq_rt ?_
            rw [if_t test]
            rfl
          rw [this]
          rfl
        | true =>
          rw [ho] at test
          have hb : g_way_right_L2 [R, a, b, w, encD (rem r used), .int m, x6, x7, .int p] = .ok (.nx [R, a, b, w, encD (rem r (m :: used)), .int m, .int t.2.1, .int t.2.2, .int (t.2.1 + t.2.2 - p)]) := by
            unfold g_way_right_L2
            refine seq_step (Eq.trans (if_f test) rfl) ?_
            refine seq_step (ρ' := [R, a, b, w, encD (rem r (m :: used)), .int m, .int t.2.1, .int t.2.2, .int p]) ?_ ?_
            · unfold gDPop
              have hd := dDrop_enc m (rem r used)
              rw [rem_cons] at hd
              simp only [e5, bnd_ok, ed, ek, hg, hd]
              rfl
            · refine (set_ok (d := .int (t.2.1 + t.2.2 - p)) ?_).trans rfl
              simp only [bnd_ok, gVar_def, gC_def, gOp_def, gUn_def, gNil_def, gCons_def, gIf_def, gTest_def, gNot_def, gAnd_def, gOr_def, gAndV_def, gOrV_def, gNotV_def, gCB_def, asB_b, hAdd_i, hSub_i, hLt_i, hLe_i, hGt_i, hGe_i, hMul_r, hMul_l, hMod_i, hDiv_s, hBand_i, hShr_i, hPow_10_18, hPow_10_27, hPow_10_28, hPow_10_29, hPow_10_30, hEq_i, hNe_i, hLen_l, hLen_t, hMin2_i, hMax2_i, hMin3_i, hInt1_b, hInt1_i, hBits_i, hListOf_l, hListOf_t, hTupOf_l, hTupOf_t, gSeqS_def, gSet_def, gRet_def, gIfS_def, gNext_def, gTup_def, gLst_def, List.getElem?_cons_zero, List.getElem?_cons_succ, List.set_cons_zero, List.set_cons_succ, List.length_cons, List.length_nil, Nat.zero_add, Nat.reduceAdd, Nat.reduceLeDiff, Nat.reduceSub, Nat.reduceMul, if_true, if_false, Bool.false_eq_true, List.replicate_succ, List.replicate_zero, List.cons_append, List.nil_append, tgN, tgT, tgCons, tgNil, Int.reducePow, Int.reduceAdd, Int.reduceSub, Int.reduceMul, decide_true, decide_false, Bool.not_true, Bool.not_false, gChain_def, hIsa_int, hIsa_intb, hIsa_list, hIsa_tuple, gDrop_def]
          have ih := walk_ok r R a b w ms (m :: used) (t.2.1 + t.2.2 - p) (.int m) (.int t.2.1) (.int t.2.2)
          rw [hb]
          simp only [bnd_ok, if_true]
          exact ih
theorem right_ok {r : List T3} (ho : r.Pairwise fun s t => s.1 < t.1) (hl : r.length ≤ 60) (a b : Int) (ms : List Int) : f_way_right [.list (r.map enc3), .int a, .int b, .list (ms.map .int)] = .ok (.bool (right r a b ms)) := by
  refine fnN_rt ?_
  show g_way_right [.list (r.map enc3), .int a, .int b, .list (ms.map .int), .none, .none, .none, .none, .none] = _
  unfold g_way_right
  refine seq_step (set_ok (d := encD []) rfl) ?_
  dsimp only [List.set]
  obtain ⟨y5, y6, y7, hfill⟩ := fill_ok ho hl (.int a) (.int b) (.list (ms.map .int)) .none .none .none .none
  refine seq_step hfill ?_
  refine seq_step (set_ok (d := .int a) rfl) ?_
  dsimp only [List.set]
  have hw := walk_ok r (.list (r.map enc3)) (.int a) (.int b) (.list (ms.map .int)) ms [] a y5 y6 y7
  unfold right
  cases e : go r [] a ms with
  | none =>
    rw [e] at hw
    exact seq_rt (for_ok (ds := ms.map .int) rfl hw)
  | some q =>
    rw [e] at hw
    obtain ⟨d, z5, z6, z7, hw⟩ := hw
    refine seq_step (for_ok (ds := ms.map .int) rfl hw) ?_
    simp only [bnd_ok, gVar_def, gC_def, gOp_def, gUn_def, gNil_def, gCons_def, gIf_def, gTest_def, gNot_def, gAnd_def, gOr_def, gAndV_def, gOrV_def, gNotV_def, gCB_def, asB_b, hAdd_i, hSub_i, hLt_i, hLe_i, hGt_i, hGe_i, hMul_r, hMul_l, hMod_i, hDiv_s, hBand_i, hShr_i, hPow_10_18, hPow_10_27, hPow_10_28, hPow_10_29, hPow_10_30, hEq_i, hNe_i, hLen_l, hLen_t, hMin2_i, hMax2_i, hMin3_i, hInt1_b, hInt1_i, hBits_i, hListOf_l, hListOf_t, hTupOf_l, hTupOf_t, gSeqS_def, gSet_def, gRet_def, gIfS_def, gNext_def, gTup_def, gLst_def, List.getElem?_cons_zero, List.getElem?_cons_succ, List.set_cons_zero, List.set_cons_succ, List.length_cons, List.length_nil, Nat.zero_add, Nat.reduceAdd, Nat.reduceLeDiff, Nat.reduceSub, Nat.reduceMul, if_true, if_false, Bool.false_eq_true, List.replicate_succ, List.replicate_zero, List.cons_append, List.nil_append, tgN, tgT, tgCons, tgNil, Int.reducePow, Int.reduceAdd, Int.reduceSub, Int.reduceMul, decide_true, decide_false, Bool.not_true, Bool.not_false, gChain_def, hIsa_int, hIsa_intb, hIsa_list, hIsa_tuple, gDrop_def]
end K58
end T_K58P

section T_K58D
set_option linter.all false
set_option maxRecDepth 100000
set_option maxHeartbeats 4000000
/-! K58D: what the law walks and counts. -/
namespace K58
open PySem Sim FamA K59

def encI (ms : List Int) : Dt := .list (ms.map .int)
def encT (t : T3) : Dt := .tuple [.int t.2.1, .int t.2.2]
theorem sl_tie (t : T3) : hSlT (enc3 t) (some 1) none = .ok (encT t) := rfl
theorem gLst_nil (ρ : List Dt) : gLst gNil ρ = .ok (.list []) := by rw [gLst_def, gNil_def, bnd_ok, if_pos (by simp)]
theorem hIn_tie (t : T3) (p : Int) : hIn (.int p) (encT t) = .ok (.bool (on t p)) := by
  have := hIn_intsT p [t.2.1, t.2.2]
  rw [on_mem] at this
  exact this
theorem shp3 (t : T3) (m : Nat) : Shp (m + 1) (enc3 t) := shp_intsT [t.1, t.2.1, t.2.2] m
theorem shp3s (r : List T3) (m : Nat) : Shp (m + 2) (.list (r.map enc3)) := shp_list fun d hd => by
  obtain ⟨t, _, rfl⟩ := List.mem_map.mp hd
  exact shp3 t m
theorem eq_nil (r : List T3) : hEq (.list (r.map enc3)) (.list []) = .ok (.bool r.isEmpty) := by
  have h1 := (shp3s r 0).shaped (by omega)
  have h2 := (shp3s [] 0).shaped (by omega)
  rw [List.map_nil] at h2
  unfold hEq
  rw [h1, h2]
  cases r with
  | nil => simp [PyData.eqv, PyData.eqvAll]
  | cons t r => simp [PyData.eqv, PyData.eqvAll]
theorem ne_nil (r : List T3) : hNe (.list (r.map enc3)) (.list []) = .ok (.bool (!r.isEmpty)) := by
  have h1 := (shp3s r 0).shaped (by omega)
  have h2 := (shp3s [] 0).shaped (by omega)
  rw [List.map_nil] at h2
  unfold hNe
  rw [h1, h2]
  cases r with
  | nil => simp [PyData.eqv, PyData.eqvAll]
  | cons t r => simp [PyData.eqv, PyData.eqvAll]
/-! ### leads -/
theorem lead_lc {r : List T3} (hl : r.length ≤ 60) (a b w d6 d7 : Dt) (p m : Int) :
    gLc (gSeq (gVar 0)) (tgN 7) (gAnd (gTest (gOp hEq (gOp hIx (gVar 7) (gC (.int (0)))) (gVar 5))) (gAnd (gTest (gOp hNe (gOp hIx (gVar 7) (gC (.int (1)))) (gOp hIx (gVar 7) (gC (.int (2)))))) (gTest (gOp hIn (gVar 4) (gSl hSlT (gVar 7) (gPart (gC (.int (1)))) (gNoPart)))))) (gVar 7)
      [.list (r.map enc3), a, b, w, .int p, .int m, d6, d7] = .ok (.list ((r.filter fun t => t.1 == m && (ne3 t && on t p)).map enc3)) := by
  refine gLc_map enc3 _ enc3 (xs := r) rfl (by omega) fun t _ => ⟨_, rfl, ?_, fun _ => rfl⟩
  have e1 : gSl hSlT (gVar 7) (gPart (gC (.int (1)))) (gNoPart) ([.list (r.map enc3), a, b, w, .int p, .int m, d6, d7].set 7 (enc3 t)) = .ok (encT t) := rfl
  have h1 := hIn_tie t p
  have e2 : gTest (gOp hIn (gVar 4) (gSl hSlT (gVar 7) (gPart (gC (.int (1)))) (gNoPart))) ([.list (r.map enc3), a, b, w, .int p, .int m, d6, d7].set 7 (enc3 t)) = .ok (on t p) := by
    rw [gTest_def, gOp_def, e1]
    show bnd (hIn (.int p) (encT t)) asB = _
    rw [h1]
    rfl
  have e3 : gTest (gOp hNe (gOp hIx (gVar 7) (gC (.int (1)))) (gOp hIx (gVar 7) (gC (.int (2))))) ([.list (r.map enc3), a, b, w, .int p, .int m, d6, d7].set 7 (enc3 t)) = .ok (ne3 t) := by
    simp only [bnd_ok, gVar_def, gC_def, gOp_def, gUn_def, gNil_def, gCons_def, gIf_def, gTest_def, gNot_def, gAnd_def, gOr_def, gAndV_def, gOrV_def, gNotV_def, gCB_def, asB_b, hAdd_i, hSub_i, hLt_i, hLe_i, hGt_i, hGe_i, hMul_r, hMul_l, hMod_i, hDiv_s, hBand_i, hShr_i, hPow_10_18, hPow_10_27, hPow_10_28, hPow_10_29, hPow_10_30, hEq_i, hNe_i, hLen_l, hLen_t, hMin2_i, hMax2_i, hMin3_i, hInt1_b, hInt1_i, hBits_i, hListOf_l, hListOf_t, hTupOf_l, hTupOf_t, gSeqS_def, gSet_def, gRet_def, gIfS_def, gNext_def, gTup_def, gLst_def, List.getElem?_cons_zero, List.getElem?_cons_succ, List.set_cons_zero, List.set_cons_succ, List.length_cons, List.length_nil, Nat.zero_add, Nat.reduceAdd, Nat.reduceLeDiff, Nat.reduceSub, Nat.reduceMul, if_true, if_false, Bool.false_eq_true, List.replicate_succ, List.replicate_zero, List.cons_append, List.nil_append, tgN, tgT, tgCons, tgNil, Int.reducePow, Int.reduceAdd, Int.reduceSub, Int.reduceMul, decide_true, decide_false, Bool.not_true, Bool.not_false, gChain_def, hIsa_int, hIsa_intb, hIsa_list, hIsa_tuple, gDrop_def, ix3_1, ix3_2]
    rfl
  have e4 : gTest (gOp hEq (gOp hIx (gVar 7) (gC (.int (0)))) (gVar 5)) ([.list (r.map enc3), a, b, w, .int p, .int m, d6, d7].set 7 (enc3 t)) = .ok (t.1 == m) := by
    simp only [bnd_ok, gVar_def, gC_def, gOp_def, gUn_def, gNil_def, gCons_def, gIf_def, gTest_def, gNot_def, gAnd_def, gOr_def, gAndV_def, gOrV_def, gNotV_def, gCB_def, asB_b, hAdd_i, hSub_i, hLt_i, hLe_i, hGt_i, hGe_i, hMul_r, hMul_l, hMod_i, hDiv_s, hBand_i, hShr_i, hPow_10_18, hPow_10_27, hPow_10_28, hPow_10_29, hPow_10_30, hEq_i, hNe_i, hLen_l, hLen_t, hMin2_i, hMax2_i, hMin3_i, hInt1_b, hInt1_i, hBits_i, hListOf_l, hListOf_t, hTupOf_l, hTupOf_t, gSeqS_def, gSet_def, gRet_def, gIfS_def, gNext_def, gTup_def, gLst_def, List.getElem?_cons_zero, List.getElem?_cons_succ, List.set_cons_zero, List.set_cons_succ, List.length_cons, List.length_nil, Nat.zero_add, Nat.reduceAdd, Nat.reduceLeDiff, Nat.reduceSub, Nat.reduceMul, if_true, if_false, Bool.false_eq_true, List.replicate_succ, List.replicate_zero, List.cons_append, List.nil_append, tgN, tgT, tgCons, tgNil, Int.reducePow, Int.reduceAdd, Int.reduceSub, Int.reduceMul, decide_true, decide_false, Bool.not_true, Bool.not_false, gChain_def, hIsa_int, hIsa_intb, hIsa_list, hIsa_tuple, gDrop_def, ix3_0]
  rw [gAnd_def, e4, bnd_ok, gAnd_def, e3, bnd_ok, e2]
  cases (t.1 == m) <;> cases ne3 t <;> rfl
def near1 (o : Option T3) (p : Int) : List T3 := match o with
  | some t => if on t p then [t] else []
  | none => []
theorem near_def {r : List T3} (h : r.Pairwise fun s t => s.1 < t.1) (m p : Int) : (r.filter fun t => t.1 == m && (ne3 t && on t p)) = near1 (tieOf r m) p := near_one h m p
theorem near_t {t : T3} {p : Int} (h : on t p = true) : near1 (some t) p = [t] := if_pos h
theorem near_f {t : T3} {p : Int} (h : on t p = false) : near1 (some t) p = [] := if_neg (by rw [h]; exact Bool.false_ne_true)
theorem lead_walk {r : List T3} (ho : r.Pairwise fun s t => s.1 < t.1) (hl : r.length ≤ 60) (a b w : Dt) : ∀ (ms : List Int) (p : Int) (x5 x6 x7 : Dt),
    match goD r p ms with
    | some q => ∃ y5 y6 y7, forE (tgN 5) g_l_leads_L1 (ms.map .int) [.list (r.map enc3), a, b, w, .int p, x5, x6, x7] = .ok (.nx [.list (r.map enc3), a, b, w, .int q, y5, y6, y7])
    | none => forE (tgN 5) g_l_leads_L1 (ms.map .int) [.list (r.map enc3), a, b, w, .int p, x5, x6, x7] = .ok (.rt (.bool false))
  | [], p, x5, x6, x7 => ⟨_, _, _, rfl⟩
  | m :: ms, p, x5, x6, x7 => by
    rw [List.map_cons, goD_cons]
    unfold forE
    have et : tgN 5 (.int m) [.list (r.map enc3), a, b, w, .int p, x5, x6, x7] = .ok [.list (r.map enc3), a, b, w, .int p, .int m, x6, x7] := rfl
    rw [et]
    have hlc := lead_lc (r := r) hl a b w x6 x7 p m
    rw [near_def ho] at hlc
    have bad : near1 (tieOf r m) p = [] → g_l_leads_L1 [.list (r.map enc3), a, b, w, .int p, .int m, x6, x7] = .ok (.rt (.bool false)) := fun z => by
      rw [z] at hlc
      unfold g_l_leads_L1
      refine seq_step (set_ok hlc) ?_
      dsimp only [List.set]
      refine seq_rt ?_
      rw [if_t]
      · rfl
      · rw [gTest_def, gOp_def, gLst_nil]
        show bnd (hEq (.list (([] : List T3).map enc3)) (.list [])) asB = _
        rw [eq_nil]
        rfl
    cases ht : tieOf r m with
    | none =>
      rw [ht] at bad
      simp only [bad rfl, bnd_ok]
    | some t =>
      rw [ht] at bad hlc
      simp only
      cases hon : on t p with
      | false =>
        simp only [bad (near_f hon), bnd_ok, Bool.false_eq_true, if_false]
      | true =>
        rw [near_t hon] at hlc
        have hb : g_l_leads_L1 [.list (r.map enc3), a, b, w, .int p, .int m, x6, x7] = .ok (.nx [.list (r.map enc3), a, b, w, .int (t.2.1 + t.2.2 - p), .int m, .list [enc3 t], x7]) := by
          unfold g_l_leads_L1
          refine seq_step (set_ok hlc) ?_
          dsimp only [List.set]
          refine seq_step (Eq.trans (if_f ?_) rfl) ?_
          · rw [gTest_def, gOp_def, gLst_nil]
            show bnd (hEq (.list ([t].map enc3)) (.list [])) asB = _
            rw [eq_nil]
            rfl
          have e0 : hIx (.list ([t].map enc3)) (.int 0) = .ok (enc3 t) := rfl
          refine (set_ok (d := .int (t.2.1 + t.2.2 - p)) ?_).trans rfl
          simp only [bnd_ok, gVar_def, gC_def, gOp_def, gUn_def, gNil_def, gCons_def, gIf_def, gTest_def, gNot_def, gAnd_def, gOr_def, gAndV_def, gOrV_def, gNotV_def, gCB_def, asB_b, hAdd_i, hSub_i, hLt_i, hLe_i, hGt_i, hGe_i, hMul_r, hMul_l, hMod_i, hDiv_s, hBand_i, hShr_i, hPow_10_18, hPow_10_27, hPow_10_28, hPow_10_29, hPow_10_30, hEq_i, hNe_i, hLen_l, hLen_t, hMin2_i, hMax2_i, hMin3_i, hInt1_b, hInt1_i, hBits_i, hListOf_l, hListOf_t, hTupOf_l, hTupOf_t, gSeqS_def, gSet_def, gRet_def, gIfS_def, gNext_def, gTup_def, gLst_def, List.getElem?_cons_zero, List.getElem?_cons_succ, List.set_cons_zero, List.set_cons_succ, List.length_cons, List.length_nil, Nat.zero_add, Nat.reduceAdd, Nat.reduceLeDiff, Nat.reduceSub, Nat.reduceMul, if_true, if_false, Bool.false_eq_true, List.replicate_succ, List.replicate_zero, List.cons_append, List.nil_append, tgN, tgT, tgCons, tgNil, Int.reducePow, Int.reduceAdd, Int.reduceSub, Int.reduceMul, decide_true, decide_false, Bool.not_true, Bool.not_false, gChain_def, hIsa_int, hIsa_intb, hIsa_list, hIsa_tuple, gDrop_def, e0, ix3_1, ix3_2]
        have ih := lead_walk ho hl a b w ms (t.2.1 + t.2.2 - p) (.int m) (.list [enc3 t]) x7
        rw [hb]
        simp only [bnd_ok, if_true]
        exact ih
def leadB (r : List T3) (a b : Int) (ms : List Int) : Bool := match goD r a ms with
  | some q => q == b
  | none => false
theorem leads_ok {r : List T3} (ho : r.Pairwise fun s t => s.1 < t.1) (hl : r.length ≤ 60) (a b : Int) (ms : List Int) : f_l_leads [.list (r.map enc3), .int a, .int b, .list (ms.map .int)] = .ok (.bool (leadB r a b ms)) := by
  refine fnN_rt ?_
  show g_l_leads [.list (r.map enc3), .int a, .int b, .list (ms.map .int), .none, .none, .none, .none] = _
  unfold g_l_leads
  refine seq_step (set_ok (d := .int a) rfl) ?_
  dsimp only [List.set]
  have hw := lead_walk ho hl (.int a) (.int b) (.list (ms.map .int)) ms a .none .none .none
  unfold leadB
  cases e : goD r a ms with
  | none =>
    rw [e] at hw
    exact seq_rt (for_ok (ds := ms.map .int) rfl hw)
  | some q =>
    rw [e] at hw
    obtain ⟨y5, y6, y7, hw⟩ := hw
    refine seq_step (for_ok (ds := ms.map .int) rfl hw) ?_
    simp only [bnd_ok, gVar_def, gC_def, gOp_def, gUn_def, gNil_def, gCons_def, gIf_def, gTest_def, gNot_def, gAnd_def, gOr_def, gAndV_def, gOrV_def, gNotV_def, gCB_def, asB_b, hAdd_i, hSub_i, hLt_i, hLe_i, hGt_i, hGe_i, hMul_r, hMul_l, hMod_i, hDiv_s, hBand_i, hShr_i, hPow_10_18, hPow_10_27, hPow_10_28, hPow_10_29, hPow_10_30, hEq_i, hNe_i, hLen_l, hLen_t, hMin2_i, hMax2_i, hMin3_i, hInt1_b, hInt1_i, hBits_i, hListOf_l, hListOf_t, hTupOf_l, hTupOf_t, gSeqS_def, gSet_def, gRet_def, gIfS_def, gNext_def, gTup_def, gLst_def, List.getElem?_cons_zero, List.getElem?_cons_succ, List.set_cons_zero, List.set_cons_succ, List.length_cons, List.length_nil, Nat.zero_add, Nat.reduceAdd, Nat.reduceLeDiff, Nat.reduceSub, Nat.reduceMul, if_true, if_false, Bool.false_eq_true, List.replicate_succ, List.replicate_zero, List.cons_append, List.nil_append, tgN, tgT, tgCons, tgNil, Int.reducePow, Int.reduceAdd, Int.reduceSub, Int.reduceMul, decide_true, decide_false, Bool.not_true, Bool.not_false, gChain_def, hIsa_int, hIsa_intb, hIsa_list, hIsa_tuple, gDrop_def]
/-! ### apart, by the law -/
theorem lap_walk (W : Dt) : ∀ (WS : List (List Int)) (S : List Int) (x2 : Dt), (S ++ WS.flatten).length ≤ 1000 → ∃ y2, forE (tgN 2) g_l_apart_L1 (WS.map encI) [W, .list (S.map .int), x2] = .ok (.nx [W, .list ((S ++ WS.flatten).map .int), y2])
  | [], S, x2, _ => ⟨x2, by rw [List.flatten_nil, List.append_nil]; rfl⟩
  | w :: WS, S, x2, hl => by
    rw [List.flatten_cons, ← List.append_assoc] at hl ⊢
    obtain ⟨y2, ih⟩ := lap_walk W WS (S ++ w) (encI w) hl
    refine ⟨y2, ?_⟩
    rw [← ih, List.map_cons]
    conv => lhs; unfold forE
    have e1 : tgN 2 (encI w) [W, .list (S.map .int), x2] = .ok [W, .list (S.map .int), encI w] := rfl
    have e2 : g_l_apart_L1 [W, .list (S.map .int), encI w] = .ok (.nx [W, .list ((S ++ w).map .int), encI w]) := by
      unfold g_l_apart_L1
      refine (gExt_l (ds := S.map .int) (es := w.map .int) rfl rfl (by rw [List.length_map, List.length_map]; rw [List.length_append, List.length_append] at hl; omega)).trans ?_
      rw [List.map_append]
      rfl
    rw [e1]
    simp only [e2, bnd_ok]
theorem lapart_ok {WS : List (List Int)} (hl : WS.flatten.length < 64) : f_l_apart [.list (WS.map encI)] = .ok (.bool (decide WS.flatten.Nodup)) := by
  obtain ⟨y2, h⟩ := lap_walk (.list (WS.map encI)) WS [] .none (by rw [List.nil_append]; omega)
  rw [List.nil_append] at h
  refine fnN_rt ?_
  show g_l_apart [.list (WS.map encI), .none, .none] = _
  unfold g_l_apart
  refine seq_step (set_ok (d := .list (([] : List Int).map .int)) (by rfl)) ?_
  dsimp only [List.set]
  refine seq_step (for_ok (ds := WS.map encI) (seqG_l (by rfl)) h) ?_
  generalize WS.flatten = ms at *
  have hset : hLenSet (.list (ms.map .int)) = .ok (.int (ddp ms).length) := by
    unfold hLenSet
    simp only [allI_map]
    rw [if_pos hl]
  have e : (((ddp ms).length : Int) == (ms.length : Int)) = decide ms.Nodup := by
    by_cases c : ms.Nodup
    · rw [decide_eq_true c, ddp_nodup.mpr c]
      simp
    · rw [decide_eq_false c, beq_eq_false_iff_ne]
      intro z
      exact c (ddp_nodup.mp (by omega))
  simp only [bnd_ok, gVar_def, gC_def, gOp_def, gUn_def, gNil_def, gCons_def, gIf_def, gTest_def, gNot_def, gAnd_def, gOr_def, gAndV_def, gOrV_def, gNotV_def, gCB_def, asB_b, hAdd_i, hSub_i, hLt_i, hLe_i, hGt_i, hGe_i, hMul_r, hMul_l, hMod_i, hDiv_s, hBand_i, hShr_i, hPow_10_18, hPow_10_27, hPow_10_28, hPow_10_29, hPow_10_30, hEq_i, hNe_i, hLen_l, hLen_t, hMin2_i, hMax2_i, hMin3_i, hInt1_b, hInt1_i, hBits_i, hListOf_l, hListOf_t, hTupOf_l, hTupOf_t, gSeqS_def, gSet_def, gRet_def, gIfS_def, gNext_def, gTup_def, gLst_def, List.getElem?_cons_zero, List.getElem?_cons_succ, List.set_cons_zero, List.set_cons_succ, List.length_cons, List.length_nil, Nat.zero_add, Nat.reduceAdd, Nat.reduceLeDiff, Nat.reduceSub, Nat.reduceMul, if_true, if_false, Bool.false_eq_true, List.replicate_succ, List.replicate_zero, List.cons_append, List.nil_append, tgN, tgT, tgCons, tgNil, Int.reducePow, Int.reduceAdd, Int.reduceSub, Int.reduceMul, decide_true, decide_false, Bool.not_true, Bool.not_false, gChain_def, hIsa_int, hIsa_intb, hIsa_list, hIsa_tuple, gDrop_def, hset, List.length_map, e]
/-- ways from a to b, no tie in two of them -/
def wayB (r : List T3) (a b : Int) (WS : List (List Int)) : Bool := decide WS.flatten.Nodup && WS.all (leadB r a b)
theorem wdue_ok {r : List T3} (ho : r.Pairwise fun s t => s.1 < t.1) (hl : r.length ≤ 60) (a b : Int) {WS : List (List Int)} (h1 : WS.length ≤ 1000) (h2 : WS.flatten.length < 64) :
    f_l_ways_due [.list (r.map enc3), .int a, .int b, .list (WS.map encI)] = .ok (if wayB r a b WS then .int WS.length else .none) := by
  refine fnN_rt ?_
  show g_l_ways_due [.list (r.map enc3), .int a, .int b, .list (WS.map encI), .none] = _
  unfold g_l_ways_due
  have c1 : gCallN 1 f_l_apart (gCons (gVar 3) (gNil)) [.list (r.map enc3), .int a, .int b, .list (WS.map encI), .none] = .ok (.bool (decide WS.flatten.Nodup)) := callN_ok (ds := [.list (WS.map encI)]) rfl rfl (lapart_ok h2)
  have l2 : gLc (gSeq (gVar 3)) (tgN 4) (gYes) (gCallN 4 f_l_leads (gCons (gVar 0) (gCons (gVar 1) (gCons (gVar 2) (gCons (gVar 4) (gNil)))))) [.list (r.map enc3), .int a, .int b, .list (WS.map encI), .none] = .ok (.list ((WS.map (leadB r a b)).map .bool)) := by
    rw [gLc_map encI (fun _ => true) (fun w => .bool (leadB r a b w)) (xs := WS) (by rfl) (by omega) fun w hw => ⟨[.list (r.map enc3), .int a, .int b, .list (WS.map encI), encI w], rfl, rfl, fun _ => ?_⟩, List.filter_eq_self.mpr (fun _ _ => rfl), List.map_map]
    · rfl
    · exact callN_ok (ds := [.list (r.map enc3), .int a, .int b, .list (w.map .int)]) rfl rfl (leads_ok ho hl a b w)
  have ha := hAll_b (WS.map (leadB r a b))
  have e1 : (WS.map (leadB r a b)).all id = WS.all (leadB r a b) := by rw [List.all_map]; rfl
  rw [e1] at ha
  have c2 : gCB hAll (gCons (gLc (gSeq (gVar 3)) (tgN 4) (gYes) (gCallN 4 f_l_leads (gCons (gVar 0) (gCons (gVar 1) (gCons (gVar 2) (gCons (gVar 4) (gNil))))))) (gNil)) [.list (r.map enc3), .int a, .int b, .list (WS.map encI), .none] = .ok (.bool (WS.all (leadB r a b))) := by
    rw [gCB_def, gCons_def, l2]
    simp only [bnd_ok, gNil_def, ha]
  unfold wayB
  cases hd : decide WS.flatten.Nodup with
  | false =>
    rw [hd] at c1
    refine seq_rt ((if_t (by simp only [gOr_def, gNot_def, gTest_def, c1, bnd_ok, asB_b, Bool.not_false, if_true])).trans rfl)
  | true =>
    rw [hd] at c1
    cases hw : WS.all (leadB r a b) with
    | false =>
      rw [hw] at c2
      refine seq_rt ((if_t (by simp only [gOr_def, gNot_def, gTest_def, c1, c2, bnd_ok, asB_b, Bool.not_true, Bool.not_false, Bool.false_eq_true, if_false])).trans rfl)
    | true =>
      rw [hw] at c2
      refine seq_step ((if_f (by simp only [gOr_def, gNot_def, gTest_def, c1, c2, bnd_ok, asB_b, Bool.not_true, Bool.false_eq_true, if_false])).trans rfl) ?_
      refine ret_ok ?_
      simp only [bnd_ok, gVar_def, gC_def, gOp_def, gUn_def, gNil_def, gCons_def, gIf_def, gTest_def, gNot_def, gAnd_def, gOr_def, gAndV_def, gOrV_def, gNotV_def, gCB_def, asB_b, hAdd_i, hSub_i, hLt_i, hLe_i, hGt_i, hGe_i, hMul_r, hMul_l, hMod_i, hDiv_s, hBand_i, hShr_i, hPow_10_18, hPow_10_27, hPow_10_28, hPow_10_29, hPow_10_30, hEq_i, hNe_i, hLen_l, hLen_t, hMin2_i, hMax2_i, hMin3_i, hInt1_b, hInt1_i, hBits_i, hListOf_l, hListOf_t, hTupOf_l, hTupOf_t, gSeqS_def, gSet_def, gRet_def, gIfS_def, gNext_def, gTup_def, gLst_def, List.getElem?_cons_zero, List.getElem?_cons_succ, List.set_cons_zero, List.set_cons_succ, List.length_cons, List.length_nil, Nat.zero_add, Nat.reduceAdd, Nat.reduceLeDiff, Nat.reduceSub, Nat.reduceMul, if_true, if_false, Bool.false_eq_true, List.replicate_succ, List.replicate_zero, List.cons_append, List.nil_append, tgN, tgT, tgCons, tgNil, Int.reducePow, Int.reduceAdd, Int.reduceSub, Int.reduceMul, decide_true, decide_false, Bool.not_true, Bool.not_false, gChain_def, hIsa_int, hIsa_intb, hIsa_list, hIsa_tuple, gDrop_def, List.length_map]
      rfl
end K58
end T_K58D

section T_K58S
set_option linter.all false
set_option maxRecDepth 100000
set_option maxHeartbeats 4000000
/-! K58S: judged, told or refused. -/
namespace K58
open PySem Sim FamA K59

def rimC (side : List Int) (t : T3) : Bool := decide (t.2.1 ∈ side) != decide (t.2.2 ∈ side)
def rimM (r : List T3) (side : List Int) : List Int := (r.filter (rimC side)).map (·.1)
theorem whole_int (z : Int) : f_is_whole [.int z] = .ok (.bool true) := rfl
theorem place_ok (n z : Int) : f_is_place [.int n, .int z] = .ok (.bool (decide (0 ≤ z) && decide (z < n))) := by
  refine fnN_rt ?_
  show g_is_place [.int n, .int z] = _
  unfold g_is_place
  have e : gCallN 1 f_is_whole (gCons (gVar 1) (gNil)) [.int n, .int z] = .ok (.bool true) := callN_ok (ds := [.int z]) rfl rfl (whole_int z)
  simp only [bnd_ok, gVar_def, gC_def, gOp_def, gUn_def, gNil_def, gCons_def, gIf_def, gTest_def, gNot_def, gAnd_def, gOr_def, gAndV_def, gOrV_def, gNotV_def, gCB_def, asB_b, hAdd_i, hSub_i, hLt_i, hLe_i, hGt_i, hGe_i, hMul_r, hMul_l, hMod_i, hDiv_s, hBand_i, hShr_i, hPow_10_18, hPow_10_27, hPow_10_28, hPow_10_29, hPow_10_30, hEq_i, hNe_i, hLen_l, hLen_t, hMin2_i, hMax2_i, hMin3_i, hInt1_b, hInt1_i, hBits_i, hListOf_l, hListOf_t, hTupOf_l, hTupOf_t, gSeqS_def, gSet_def, gRet_def, gIfS_def, gNext_def, gTup_def, gLst_def, List.getElem?_cons_zero, List.getElem?_cons_succ, List.set_cons_zero, List.set_cons_succ, List.length_cons, List.length_nil, Nat.zero_add, Nat.reduceAdd, Nat.reduceLeDiff, Nat.reduceSub, Nat.reduceMul, if_true, if_false, Bool.false_eq_true, List.replicate_succ, List.replicate_zero, List.cons_append, List.nil_append, tgN, tgT, tgCons, tgNil, Int.reducePow, Int.reduceAdd, Int.reduceSub, Int.reduceMul, decide_true, decide_false, Bool.not_true, Bool.not_false, gChain_def, hIsa_int, hIsa_intb, hIsa_list, hIsa_tuple, gDrop_def, e]
  cases decide (0 ≤ z) <;> rfl
theorem map1 (l : List T3) : l.map (fun t => PyData.int t.1) = (l.map (·.1)).map PyData.int := by rw [List.map_map]; rfl
theorem pure3 : ∀ r : List T3, pureA (r.map enc3) = true
  | [] => rfl
  | t :: r => by
    rw [List.map_cons]
    unfold pureA
    rw [pure3 r]
    rfl
theorem rim_ok (r : List T3) (side : List Int) (hl : r.length ≤ 1000) : f_rim [.list (r.map enc3), .tuple (side.map .int)] = .ok (.list ((rimM r side).map .int)) := by
  refine fnL_rt ?_
  show g_rim [.list (r.map enc3), .tuple (side.map .int), .none, .none, .none] = _
  unfold g_rim
  have h := gLc_map enc3 (rimC side) (fun t => PyData.int t.1) (gi := gSeq (gVar 0)) (h := tgT (tgCons (tgN 2) (tgCons (tgN 3) (tgCons (tgN 4) tgNil)))) (gt := gTest (gOp hNe (gOp hIn (gVar 3) (gVar 1)) (gOp hIn (gVar 4) (gVar 1)))) (ge := gVar 2)
    (ρ := [.list (r.map enc3), .tuple (side.map .int), .none, .none, .none]) (xs := r) rfl (by omega) (fun t _ => ⟨_, rfl, by
      simp only [bnd_ok, gVar_def, gC_def, gOp_def, gUn_def, gNil_def, gCons_def, gIf_def, gTest_def, gNot_def, gAnd_def, gOr_def, gAndV_def, gOrV_def, gNotV_def, gCB_def, asB_b, hAdd_i, hSub_i, hLt_i, hLe_i, hGt_i, hGe_i, hMul_r, hMul_l, hMod_i, hDiv_s, hBand_i, hShr_i, hPow_10_18, hPow_10_27, hPow_10_28, hPow_10_29, hPow_10_30, hEq_i, hNe_i, hLen_l, hLen_t, hMin2_i, hMax2_i, hMin3_i, hInt1_b, hInt1_i, hBits_i, hListOf_l, hListOf_t, hTupOf_l, hTupOf_t, gSeqS_def, gSet_def, gRet_def, gIfS_def, gNext_def, gTup_def, gLst_def, List.getElem?_cons_zero, List.getElem?_cons_succ, List.set_cons_zero, List.set_cons_succ, List.length_cons, List.length_nil, Nat.zero_add, Nat.reduceAdd, Nat.reduceLeDiff, Nat.reduceSub, Nat.reduceMul, if_true, if_false, Bool.false_eq_true, List.replicate_succ, List.replicate_zero, List.cons_append, List.nil_append, tgN, tgT, tgCons, tgNil, Int.reducePow, Int.reduceAdd, Int.reduceSub, Int.reduceMul, decide_true, decide_false, Bool.not_true, Bool.not_false, gChain_def, hIsa_int, hIsa_intb, hIsa_list, hIsa_tuple, gDrop_def, hIn_intsT, hNe_b]
      rfl, fun _ => rfl⟩)
  simp only [gRet_def, gPurN_def, h, bnd_ok, pureIn, map1, pureA_ints, if_true]
  rfl
def since (t : Int) (r : List T3) : List T3 := r.filter fun s => decide (t ≤ s.1)
theorem since_ok (r : List T3) (t : Int) (hl : r.length ≤ 1000) : f_since [.list (r.map enc3), .int t] = .ok (.list ((since t r).map enc3)) := by
  refine fnL_rt ?_
  show g_since [.list (r.map enc3), .int t, .none] = _
  unfold g_since
  have h := gLc_map enc3 (fun s => decide (t ≤ s.1)) enc3 (gi := gSeq (gVar 0)) (h := tgN 2) (gt := gTest (gOp hGe (gOp hIx (gVar 2) (gC (.int (0)))) (gVar 1))) (ge := gVar 2)
    (ρ := [.list (r.map enc3), .int t, .none]) (xs := r) rfl (by omega) (fun s _ => ⟨_, rfl, by simp only [bnd_ok, gVar_def, gC_def, gOp_def, gUn_def, gNil_def, gCons_def, gIf_def, gTest_def, gNot_def, gAnd_def, gOr_def, gAndV_def, gOrV_def, gNotV_def, gCB_def, asB_b, hAdd_i, hSub_i, hLt_i, hLe_i, hGt_i, hGe_i, hMul_r, hMul_l, hMod_i, hDiv_s, hBand_i, hShr_i, hPow_10_18, hPow_10_27, hPow_10_28, hPow_10_29, hPow_10_30, hEq_i, hNe_i, hLen_l, hLen_t, hMin2_i, hMax2_i, hMin3_i, hInt1_b, hInt1_i, hBits_i, hListOf_l, hListOf_t, hTupOf_l, hTupOf_t, gSeqS_def, gSet_def, gRet_def, gIfS_def, gNext_def, gTup_def, gLst_def, List.getElem?_cons_zero, List.getElem?_cons_succ, List.set_cons_zero, List.set_cons_succ, List.length_cons, List.length_nil, Nat.zero_add, Nat.reduceAdd, Nat.reduceLeDiff, Nat.reduceSub, Nat.reduceMul, if_true, if_false, Bool.false_eq_true, List.replicate_succ, List.replicate_zero, List.cons_append, List.nil_append, tgN, tgT, tgCons, tgNil, Int.reducePow, Int.reduceAdd, Int.reduceSub, Int.reduceMul, decide_true, decide_false, Bool.not_true, Bool.not_false, gChain_def, hIsa_int, hIsa_intb, hIsa_list, hIsa_tuple, gDrop_def, ix3_0], fun _ => rfl⟩)
  simp only [gRet_def, gPurN_def, h, bnd_ok, pureIn, pure3, if_true]
  rfl
/-! are_apart -/
def sE (m : Int) : Dt × Dt := (.int m, .bool true)
def encS (S : List Int) : Dt := .dict (S.map sE)
theorem isK_sE (q m : Int) : isK (.inl q) (sE m).1 = (m == q) := by
  show decide (m = q) = (m == q)
  by_cases c : m = q <;> simp [c]
theorem dGet_S (q : Int) : ∀ S : List Int, (dGet (S.map sE) (.inl q)).isSome = decide (q ∈ S)
  | [] => rfl
  | m :: S => by
    have ih := dGet_S q S
    unfold dGet at ih ⊢
    rw [List.map_cons, List.find?_cons, isK_sE]
    cases h : (m == q)
    · have : ¬ q = m := fun e => by rw [e] at h; simp at h
      simp only [ih]
      simp [this]
    · have : m = q := by simpa using h
      simp [this]
theorem dPut_S (q : Int) (v : Dt) (S : List Int) (h : q ∉ S) : dPut (S.map sE) (.inl q) v = S.map sE ++ [(.int q, v)] := by
  unfold dPut
  rw [if_neg]
  · rfl
  · intro z
    obtain ⟨x, hx, e⟩ := List.any_eq_true.mp z
    obtain ⟨m, hm, rfl⟩ := List.mem_map.mp hx
    rw [isK_sE, beq_iff_eq] at e
    exact h (e ▸ hm)
theorem ap1_ok (W w : Dt) : ∀ (ms S : List Int) (x3 : Dt), (S ++ ms).Nodup → (S ++ ms).length ≤ 1000 →
    ∃ y3, forE (tgN 3) g_are_apart_L1 (ms.map .int) [W, encS S, w, x3] = .ok (.nx [W, encS (S ++ ms), w, y3])
  | [], S, x3, _, _ => ⟨x3, by rw [List.append_nil]; rfl⟩
  | m :: ms, S, x3, hn, hl => by
    have hm : m ∉ S := fun z => (List.nodup_append.mp hn).2.2 m z m List.mem_cons_self rfl
    have ha : S ++ m :: ms = (S ++ [m]) ++ ms := by rw [List.append_assoc]; rfl
    rw [ha] at hn hl ⊢
    obtain ⟨y3, ih⟩ := ap1_ok W w ms (S ++ [m]) (.int m) hn hl
    refine ⟨y3, ?_⟩
    rw [← ih, List.map_cons]
    conv => lhs; unfold forE
    have e1 : tgN 3 (.int m) [W, encS S, w, x3] = .ok [W, encS S, w, .int m] := rfl
    have e3 : gVar 3 [W, encS S, w, .int m] = .ok (.int m) := rfl
    have ek : ∀ z, keyOf (.int z) = some (.inl z) := fun _ => rfl
    have ed : dAt [W, encS S, w, .int m] 1 = some (S.map sE) := rfl
    have din : gTest (gDIn false 1 (gVar 3)) [W, encS S, w, .int m] = .ok false := by
      rw [gTest_def]
      unfold gDIn
      simp only [e3, bnd_ok, ed, ek, dGet_S, decide_eq_false hm]
      rfl
    have hput := dPut_S m (.bool true) S hm
    have e2 : g_are_apart_L1 [W, encS S, w, .int m] = .ok (.nx [W, encS (S ++ [m]), w, .int m]) := by
      unfold g_are_apart_L1
      refine seq_step ((if_f din).trans rfl) ?_
      unfold gDPut
      simp only [gC_def, bnd_ok, ed, e3, ek, hput, List.length_map]
      rw [if_pos (by rw [List.length_append, List.length_append] at hl; omega)]
      have e5 : S.map sE ++ [(PyData.int m, PyData.bool true)] = (S ++ [m]).map sE := by rw [List.map_append]; rfl
      rw [e5]
      rfl
    rw [e1]
    simp only [e2, bnd_ok]
theorem ap1_no (W w : Dt) : ∀ (ms S : List Int) (x3 : Dt), S.Nodup → ¬ (S ++ ms).Nodup → (S ++ ms).length ≤ 1000 →
    forE (tgN 3) g_are_apart_L1 (ms.map .int) [W, encS S, w, x3] = .ok (.rt (.bool false))
  | [], S, x3, h0, hn, _ => absurd (by rw [List.append_nil]; exact h0) hn
  | m :: ms, S, x3, h0, hn, hl => by
    rw [List.map_cons]
    unfold forE
    have e1 : tgN 3 (.int m) [W, encS S, w, x3] = .ok [W, encS S, w, .int m] := rfl
    have e3 : gVar 3 [W, encS S, w, .int m] = .ok (.int m) := rfl
    have ek : ∀ z, keyOf (.int z) = some (.inl z) := fun _ => rfl
    have ed : dAt [W, encS S, w, .int m] 1 = some (S.map sE) := rfl
    have din : gTest (gDIn false 1 (gVar 3)) [W, encS S, w, .int m] = .ok (decide (m ∈ S)) := by
      rw [gTest_def]
      unfold gDIn
      simp only [e3, bnd_ok, ed, ek, dGet_S]
      rfl
    rw [e1]
    by_cases hm : m ∈ S
    · rw [decide_eq_true hm] at din
      have e2 : g_are_apart_L1 [W, encS S, w, .int m] = .ok (.rt (.bool false)) := by
        unfold g_are_apart_L1
        exact seq_rt ((if_t din).trans rfl)
      simp only [e2, bnd_ok]
    · rw [decide_eq_false hm] at din
      have ha : S ++ m :: ms = (S ++ [m]) ++ ms := by rw [List.append_assoc]; rfl
      rw [ha] at hn hl
      have hput := dPut_S m (.bool true) S hm
      have e2 : g_are_apart_L1 [W, encS S, w, .int m] = .ok (.nx [W, encS (S ++ [m]), w, .int m]) := by
        unfold g_are_apart_L1
        refine seq_step ((if_f din).trans rfl) ?_
        unfold gDPut
        simp only [gC_def, bnd_ok, ed, e3, ek, hput, List.length_map]
        rw [if_pos (by rw [List.length_append, List.length_append] at hl; omega)]
        have e5 : S.map sE ++ [(PyData.int m, PyData.bool true)] = (S ++ [m]).map sE := by rw [List.map_append]; rfl
        rw [e5]
        rfl
      simp only [e2, bnd_ok]
      exact ap1_no W w ms (S ++ [m]) (.int m) (List.nodup_append.mpr ⟨h0, by simp, fun x hx y hy => by rw [List.mem_singleton.mp hy]; exact fun z => hm (z ▸ hx)⟩) hn hl
theorem ap2_ok (W : Dt) : ∀ (WS : List (List Int)) (S : List Int) (x2 x3 : Dt), S.Nodup → (S ++ WS.flatten).length ≤ 1000 →
    ((S ++ WS.flatten).Nodup ∧ ∃ T y2 y3, forE (tgN 2) g_are_apart_L2 (WS.map encI) [W, encS S, x2, x3] = .ok (.nx [W, T, y2, y3])) ∨
    (¬ (S ++ WS.flatten).Nodup ∧ forE (tgN 2) g_are_apart_L2 (WS.map encI) [W, encS S, x2, x3] = .ok (.rt (.bool false)))
  | [], S, x2, x3, h0, _ => .inl ⟨by rw [List.flatten_nil, List.append_nil]; exact h0, _, _, _, rfl⟩
  | w :: WS, S, x2, x3, h0, hl => by
    rw [List.flatten_cons, ← List.append_assoc] at hl ⊢
    have e1 : tgN 2 (encI w) [W, encS S, x2, x3] = .ok [W, encS S, encI w, x3] := rfl
    by_cases hn : (S ++ w).Nodup
    · obtain ⟨y3, h1⟩ := ap1_ok W (encI w) w S x3 hn (by rw [List.length_append] at hl; omega)
      have e2 : g_are_apart_L2 [W, encS S, encI w, x3] = .ok (.nx [W, encS (S ++ w), encI w, y3]) := for_ok (ds := w.map .int) (seqG_l (by rfl)) h1
      have estep : forE (tgN 2) g_are_apart_L2 ((w :: WS).map encI) [W, encS S, x2, x3] = forE (tgN 2) g_are_apart_L2 (WS.map encI) [W, encS (S ++ w), encI w, y3] := by
        rw [List.map_cons]
        conv => lhs; unfold forE
        rw [e1]
        simp only [e2, bnd_ok]
      rw [estep]
      exact ap2_ok W WS (S ++ w) (encI w) y3 hn hl
    · refine .inr ⟨fun z => hn (List.nodup_append.mp z).1, ?_⟩
      have h1 := ap1_no W (encI w) w S x3 h0 hn (by rw [List.length_append] at hl; omega)
      have e2 : g_are_apart_L2 [W, encS S, encI w, x3] = .ok (.rt (.bool false)) := for_ok (ds := w.map .int) (seqG_l (by rfl)) h1
      rw [List.map_cons]
      unfold forE
      rw [e1]
      simp only [e2, bnd_ok]
theorem apart_ok {WS : List (List Int)} (hl : WS.flatten.length ≤ 1000) : f_are_apart [.list (WS.map encI)] = .ok (.bool (decide WS.flatten.Nodup)) := by
  refine fnN_rt ?_
  show g_are_apart [.list (WS.map encI), .none, .none, .none] = _
  unfold g_are_apart
  refine seq_step (set_ok (d := encS []) (by rfl)) ?_
  dsimp only [List.set]
  rcases ap2_ok (.list (WS.map encI)) WS [] .none .none List.nodup_nil hl with ⟨hn, T, y2, y3, h⟩ | ⟨hn, h⟩
  · rw [List.nil_append] at hn
    rw [decide_eq_true hn]
    exact seq_step (for_ok (ds := WS.map encI) (seqG_l (by rfl)) h) rfl
  · rw [List.nil_append] at hn
    rw [decide_eq_false hn]
    exact seq_rt (for_ok (ds := WS.map encI) (seqG_l (by rfl)) h)
theorem all_t {α : Type} (xs : List α) : hAll [.list (xs.map fun _ => PyData.bool true)] = .ok (.bool true) := by
  have := hAll_b (xs.map fun _ => true)
  rw [List.map_map] at this
  rw [show (PyData.bool ∘ fun (_ : α) => true) = fun _ => PyData.bool true from rfl] at this
  rw [this]
  simp
abbrev NP : Exn := ⟨"NoPaper", none⟩
theorem all_eq {r : List T3} {a b : Int} {WS : List (List Int)} (hn : WS.flatten.Nodup) : WS.all (right r a b) = WS.all (leadB r a b) := by
  have h : ∀ w ∈ WS, right r a b w = leadB r a b w := fun w hw => by
    have h1 : w.Nodup := (List.pairwise_flatten.mp hn).1 w hw
    rw [right_eq, if_pos h1]
    rfl
  clear hn
  induction WS with
  | nil => rfl
  | cons w WS ih =>
    rw [List.all_cons, List.all_cons, h w List.mem_cons_self, ih fun u hu => h u (List.mem_cons_of_mem _ hu)]
def mny (r : List T3) (a b : Int) (WS : List (List Int)) : O Dt := if wayB r a b WS then .ok (.int WS.length) else .ex NP
theorem many_ok {r : List T3} (ho : r.Pairwise fun s t => s.1 < t.1) (hl : r.length ≤ 60) (a b : Int) {WS : List (List Int)} (h1 : WS.length ≤ 1000) (h2 : WS.flatten.length ≤ 1000) :
    f_many_ways [.list (r.map enc3), .int a, .int b, .list (WS.map encI)] = mny r a b WS := by
  have t1 : gTest (gUn (hIsa .list) (gVar 3)) [.list (r.map enc3), .int a, .int b, .list (WS.map encI), .none] = .ok true := rfl
  have l1 : gLc (gSeq (gVar 3)) (tgN 4) (gYes) (gUn (hIsa .list) (gVar 4)) [.list (r.map enc3), .int a, .int b, .list (WS.map encI), .none] = .ok (.list (WS.map fun _ => .bool true)) := by
    rw [gLc_map encI (fun _ => true) (fun _ => .bool true) (xs := WS) (by rfl) (by omega) fun w hw => ⟨_, rfl, rfl, fun _ => rfl⟩, List.filter_eq_self.mpr (fun _ _ => rfl)]
  have t2 : gTest (gCB hAll (gCons (gLc (gSeq (gVar 3)) (tgN 4) (gYes) (gUn (hIsa .list) (gVar 4))) (gNil))) [.list (r.map enc3), .int a, .int b, .list (WS.map encI), .none] = .ok true := by
    rw [gTest_def, gCB_def, gCons_def, l1]
    simp only [bnd_ok, gNil_def, all_t]
    rfl
  have c1 : gCallN 1 f_are_apart (gCons (gVar 3) (gNil)) [.list (r.map enc3), .int a, .int b, .list (WS.map encI), .none] = .ok (.bool (decide WS.flatten.Nodup)) := callN_ok (ds := [.list (WS.map encI)]) rfl rfl (apart_ok h2)
  have l2 : gLc (gSeq (gVar 3)) (tgN 4) (gYes) (gCallN 4 f_way_right (gCons (gVar 0) (gCons (gVar 1) (gCons (gVar 2) (gCons (gVar 4) (gNil)))))) [.list (r.map enc3), .int a, .int b, .list (WS.map encI), .none] = .ok (.list ((WS.map (right r a b)).map .bool)) := by
    rw [gLc_map encI (fun _ => true) (fun w => .bool (right r a b w)) (xs := WS) (by rfl) (by omega) fun w hw => ⟨[.list (r.map enc3), .int a, .int b, .list (WS.map encI), encI w], rfl, rfl, fun _ => ?_⟩, List.filter_eq_self.mpr (fun _ _ => rfl), List.map_map]
    · rfl
    · exact callN_ok (ds := [.list (r.map enc3), .int a, .int b, .list (w.map .int)]) rfl rfl (right_ok ho hl a b w)
  have ha := hAll_b (WS.map (right r a b))
  have e1 : (WS.map (right r a b)).all id = WS.all (right r a b) := by rw [List.all_map]; rfl
  rw [e1] at ha
  have c2 : gCB hAll (gCons (gLc (gSeq (gVar 3)) (tgN 4) (gYes) (gCallN 4 f_way_right (gCons (gVar 0) (gCons (gVar 1) (gCons (gVar 2) (gCons (gVar 4) (gNil))))))) (gNil)) [.list (r.map enc3), .int a, .int b, .list (WS.map encI), .none] = .ok (.bool (WS.all (right r a b))) := by
    rw [gCB_def, gCons_def, l2]
    simp only [bnd_ok, gNil_def, ha]
  have hg : g_many_ways [.list (r.map enc3), .int a, .int b, .list (WS.map encI), .none] = bnd (mny r a b WS) fun d => .ok (.rt d) := by
    unfold g_many_ways mny wayB
    refine seq_step ((if_f (by simp only [gOr_def, gNot_def, t1, t2, bnd_ok, Bool.not_true, Bool.false_eq_true, if_false])).trans rfl) ?_
    by_cases hn : WS.flatten.Nodup
    · rw [decide_eq_true hn] at c1 ⊢
      rw [all_eq hn] at c2
      cases hw : WS.all (leadB r a b) with
      | false =>
        rw [hw] at c2
        exact seq_ex ((if_t (by simp only [gOr_def, gNot_def, gTest_def, c1, c2, bnd_ok, asB_b, Bool.not_true, Bool.not_false, Bool.false_eq_true, if_false])).trans rfl)
      | true =>
        rw [hw] at c2
        refine seq_step ((if_f (by simp only [gOr_def, gNot_def, gTest_def, c1, c2, bnd_ok, asB_b, Bool.not_true, Bool.false_eq_true, if_false])).trans rfl) ?_
        refine ret_ok ?_
        simp only [bnd_ok, gVar_def, gC_def, gOp_def, gUn_def, gNil_def, gCons_def, gIf_def, gTest_def, gNot_def, gAnd_def, gOr_def, gAndV_def, gOrV_def, gNotV_def, gCB_def, asB_b, hAdd_i, hSub_i, hLt_i, hLe_i, hGt_i, hGe_i, hMul_r, hMul_l, hMod_i, hDiv_s, hBand_i, hShr_i, hPow_10_18, hPow_10_27, hPow_10_28, hPow_10_29, hPow_10_30, hEq_i, hNe_i, hLen_l, hLen_t, hMin2_i, hMax2_i, hMin3_i, hInt1_b, hInt1_i, hBits_i, hListOf_l, hListOf_t, hTupOf_l, hTupOf_t, gSeqS_def, gSet_def, gRet_def, gIfS_def, gNext_def, gTup_def, gLst_def, List.getElem?_cons_zero, List.getElem?_cons_succ, List.set_cons_zero, List.set_cons_succ, List.length_cons, List.length_nil, Nat.zero_add, Nat.reduceAdd, Nat.reduceLeDiff, Nat.reduceSub, Nat.reduceMul, if_true, if_false, Bool.false_eq_true, List.replicate_succ, List.replicate_zero, List.cons_append, List.nil_append, tgN, tgT, tgCons, tgNil, Int.reducePow, Int.reduceAdd, Int.reduceSub, Int.reduceMul, decide_true, decide_false, Bool.not_true, Bool.not_false, gChain_def, hIsa_int, hIsa_intb, hIsa_list, hIsa_tuple, gDrop_def, List.length_map]
    · rw [decide_eq_false hn] at c1 ⊢
      exact seq_ex ((if_t (by simp only [gOr_def, gNot_def, gTest_def, c1, bnd_ok, asB_b, Bool.not_false, if_true])).trans rfl)
  cases e : mny r a b WS with
  | bad =>
    unfold mny at e
    split at e <;> cases e
  | ok d =>
    rw [e] at hg
    exact fnNX_rt hg
  | ex z =>
    rw [e] at hg
    exact fnNX_ex hg
/-- what is no list of ways -/
theorem many_no {R a b d : Dt} (h : hIsa .list d = .ok (.bool false)) : f_many_ways [R, a, b, d] = .ex NP := by
  refine fnNX_ex ?_
  show g_many_ways [R, a, b, d, .none] = _
  unfold g_many_ways
  refine seq_ex ((if_t ?_).trans rfl)
  simp only [gOr_def, gNot_def, gTest_def, gUn_def, gVar_def, List.getElem?_cons_zero, List.getElem?_cons_succ, bnd_ok, h, asB_b, Bool.not_false, if_true]
/-! ### sides -/
def inB (n : Int) (S : List Int) : Bool := S.all fun p => decide (0 ≤ p) && decide (p < n)
def adjB (S : List Int) : Bool := ((List.range (S.length - 1)).map fun i => decide (S.getD i 0 < S.getD (i + 1) 0)).all id
theorem adj_iff (S : List Int) : adjB S = true ↔ S.Pairwise (· < ·) := by
  unfold adjB
  rw [List.all_eq_true]
  constructor
  · intro h
    have step : ∀ i (hi : i + 1 < S.length), S[i] < S[i + 1] := fun i hi => by
      have := h _ (List.mem_map.mpr ⟨i, List.mem_range.mpr (by omega), rfl⟩)
      rw [id, decide_eq_true_eq, List.getD_eq_getElem?_getD, List.getD_eq_getElem?_getD, List.getElem?_eq_getElem (by omega : i < S.length), List.getElem?_eq_getElem hi] at this
      exact this
    rw [List.pairwise_iff_getElem]
    intro i j hi hj hij
    obtain ⟨k, rfl⟩ : ∃ k, j = i + 1 + k := ⟨j - i - 1, by omega⟩
    clear hij
    induction k with
    | zero => exact step i hj
    | succ k ih => exact Int.lt_trans (ih (by omega)) (step (i + 1 + k) hj)
  · intro h b hb
    obtain ⟨i, hi, rfl⟩ := List.mem_map.mp hb
    have hi := List.mem_range.mp hi
    rw [id, decide_eq_true_eq, List.getD_eq_getElem?_getD, List.getD_eq_getElem?_getD, List.getElem?_eq_getElem (by omega : i < S.length), List.getElem?_eq_getElem (by omega : i + 1 < S.length)]
    exact List.pairwise_iff_getElem.mp h i (i + 1) (by omega) (by omega) (by omega)
theorem side_ok {n : Int} {side : List Int} (hl : side.length ≤ 1000) : f_is_side [.int n, .tuple (side.map .int)] = .ok (.bool (inB n side && adjB side)) := by
  refine fnN_rt ?_
  show g_is_side [.int n, .tuple (side.map .int), .none, .none] = _
  unfold g_is_side
  have t1 : gTest (gUn (hIsa .tuple) (gVar 1)) [.int n, .tuple (side.map .int), .none, .none] = .ok true := rfl
  have l1 : gLc (gSeq (gVar 1)) (tgN 2) (gYes) (gCallN 2 f_is_place (gCons (gVar 0) (gCons (gVar 2) (gNil)))) [.int n, .tuple (side.map .int), .none, .none] = .ok (.list ((side.map fun p => decide (0 ≤ p) && decide (p < n)).map .bool)) := by
    rw [gLc_map PyData.int (fun _ => true) (fun p => .bool (decide (0 ≤ p) && decide (p < n))) (xs := side) (seqG_t (by rfl)) (by omega) fun p hp => ⟨[.int n, .tuple (side.map .int), .int p, .none], rfl, rfl, fun _ => ?_⟩, List.filter_eq_self.mpr (fun _ _ => rfl), List.map_map]
    · rfl
    · exact callN_ok (ds := [.int n, .int p]) rfl rfl (place_ok n p)
  have ha := hAll_b (side.map fun p => decide (0 ≤ p) && decide (p < n))
  have e1 : (side.map fun p => decide (0 ≤ p) && decide (p < n)).all id = inB n side := by rw [List.all_map]; rfl
  rw [e1] at ha
  have c2 : gTest (gCB hAll (gCons (gLc (gSeq (gVar 1)) (tgN 2) (gYes) (gCallN 2 f_is_place (gCons (gVar 0) (gCons (gVar 2) (gNil))))) (gNil))) [.int n, .tuple (side.map .int), .none, .none] = .ok (inB n side) := by
    rw [gTest_def, gCB_def, gCons_def, l1]
    simp only [bnd_ok, gNil_def, ha, asB_b]
  cases hi : inB n side with
  | false =>
    rw [hi] at c2
    exact seq_rt ((if_t (by simp only [gOr_def, gNot_def, t1, c2, bnd_ok, Bool.not_true, Bool.not_false, Bool.false_eq_true, if_false])).trans rfl)
  | true =>
    rw [hi] at c2
    refine seq_step ((if_f (by simp only [gOr_def, gNot_def, t1, c2, bnd_ok, Bool.not_true, Bool.false_eq_true, if_false])).trans rfl) ?_
    have lr : gRng2 (gCons (gC (.int (1))) (gCons (gCB hLen (gCons (gVar 1) (gNil))) (gNil))) [.int n, .tuple (side.map .int), .none, .none] = .ok ((List.range (side.length - 1)).map fun (i : Nat) => PyData.int (1 + (i : Int))) := by
      rw [rng2_ok (i := 1) (j := (side.length : Int)) (by simp only [bnd_ok, gVar_def, gC_def, gOp_def, gUn_def, gNil_def, gCons_def, gIf_def, gTest_def, gNot_def, gAnd_def, gOr_def, gAndV_def, gOrV_def, gNotV_def, gCB_def, asB_b, hAdd_i, hSub_i, hLt_i, hLe_i, hGt_i, hGe_i, hMul_r, hMul_l, hMod_i, hDiv_s, hBand_i, hShr_i, hPow_10_18, hPow_10_27, hPow_10_28, hPow_10_29, hPow_10_30, hEq_i, hNe_i, hLen_l, hLen_t, hMin2_i, hMax2_i, hMin3_i, hInt1_b, hInt1_i, hBits_i, hListOf_l, hListOf_t, hTupOf_l, hTupOf_t, gSeqS_def, gSet_def, gRet_def, gIfS_def, gNext_def, gTup_def, gLst_def, List.getElem?_cons_zero, List.getElem?_cons_succ, List.set_cons_zero, List.set_cons_succ, List.length_cons, List.length_nil, Nat.zero_add, Nat.reduceAdd, Nat.reduceLeDiff, Nat.reduceSub, Nat.reduceMul, if_true, if_false, Bool.false_eq_true, List.replicate_succ, List.replicate_zero, List.cons_append, List.nil_append, tgN, tgT, tgCons, tgNil, Int.reducePow, Int.reduceAdd, Int.reduceSub, Int.reduceMul, decide_true, decide_false, Bool.not_true, Bool.not_false, gChain_def, hIsa_int, hIsa_intb, hIsa_list, hIsa_tuple, gDrop_def, List.length_map]) (by omega) (by omega) (by omega) (by omega)]
      unfold rangeD
      rw [show ((side.length : Int) - 1).toNat = side.length - 1 by omega]
    have l2 : gLc (gRng2 (gCons (gC (.int (1))) (gCons (gCB hLen (gCons (gVar 1) (gNil))) (gNil)))) (tgN 3) (gYes) (gOp hLt (gOp hIx (gVar 1) (gOp hSub (gVar 3) (gC (.int (1))))) (gOp hIx (gVar 1) (gVar 3))) [.int n, .tuple (side.map .int), .none, .none] = .ok (.list (((List.range (side.length - 1)).map fun i => decide (side.getD i 0 < side.getD (i + 1) 0)).map .bool)) := by
      rw [gLc_map (fun (i : Nat) => PyData.int (1 + (i : Int))) (fun _ => true) (fun i => .bool (decide (side.getD i 0 < side.getD (i + 1) 0))) (xs := List.range (side.length - 1)) lr (by rw [List.length_range]; omega) fun i hi => ⟨[.int n, .tuple (side.map .int), .none, .int (1 + (i : Int))], rfl, rfl, fun _ => ?_⟩, List.filter_eq_self.mpr (fun _ _ => rfl), List.map_map]
      · rfl
      have hi := List.mem_range.mp hi
      have i1 : hIx (.tuple (side.map .int)) (.int (1 + (i : Int) - 1)) = .ok (.int (side.getD i 0)) := by
        refine (hIx_t (atI_map _ (by omega) (by omega))).trans ?_
        have e : ((1 : Int) + (i : Int) - 1).toNat = i := by omega
        simp only [e]
        rw [List.getD_eq_getElem?_getD, List.getElem?_eq_getElem (by omega : i < side.length)]
        rfl
      have i2 : hIx (.tuple (side.map .int)) (.int (1 + (i : Int))) = .ok (.int (side.getD (i + 1) 0)) := by
        refine (hIx_t (atI_map _ (by omega) (by omega))).trans ?_
        have e : ((1 : Int) + (i : Int)).toNat = i + 1 := by omega
        simp only [e]
        rw [List.getD_eq_getElem?_getD, List.getElem?_eq_getElem (by omega : i + 1 < side.length)]
        rfl
      simp only [bnd_ok, gVar_def, gC_def, gOp_def, gUn_def, gNil_def, gCons_def, gIf_def, gTest_def, gNot_def, gAnd_def, gOr_def, gAndV_def, gOrV_def, gNotV_def, gCB_def, asB_b, hAdd_i, hSub_i, hLt_i, hLe_i, hGt_i, hGe_i, hMul_r, hMul_l, hMod_i, hDiv_s, hBand_i, hShr_i, hPow_10_18, hPow_10_27, hPow_10_28, hPow_10_29, hPow_10_30, hEq_i, hNe_i, hLen_l, hLen_t, hMin2_i, hMax2_i, hMin3_i, hInt1_b, hInt1_i, hBits_i, hListOf_l, hListOf_t, hTupOf_l, hTupOf_t, gSeqS_def, gSet_def, gRet_def, gIfS_def, gNext_def, gTup_def, gLst_def, List.getElem?_cons_zero, List.getElem?_cons_succ, List.set_cons_zero, List.set_cons_succ, List.length_cons, List.length_nil, Nat.zero_add, Nat.reduceAdd, Nat.reduceLeDiff, Nat.reduceSub, Nat.reduceMul, if_true, if_false, Bool.false_eq_true, List.replicate_succ, List.replicate_zero, List.cons_append, List.nil_append, tgN, tgT, tgCons, tgNil, Int.reducePow, Int.reduceAdd, Int.reduceSub, Int.reduceMul, decide_true, decide_false, Bool.not_true, Bool.not_false, gChain_def, hIsa_int, hIsa_intb, hIsa_list, hIsa_tuple, gDrop_def, i1, i2]
    have hb := hAll_b ((List.range (side.length - 1)).map fun i => decide (side.getD i 0 < side.getD (i + 1) 0))
    refine ret_ok ?_
    rw [gCB_def, gCons_def, l2]
    simp only [bnd_ok, gNil_def, hb]
    rfl
theorem side_no {n : Int} {d : Dt} (h : hIsa .tuple d = .ok (.bool false)) : f_is_side [.int n, d] = .ok (.bool false) := by
  refine fnN_rt ?_
  show g_is_side [.int n, d, .none, .none] = _
  unfold g_is_side
  refine seq_rt ((if_t ?_).trans rfl)
  simp only [gOr_def, gNot_def, gTest_def, gUn_def, gVar_def, List.getElem?_cons_zero, List.getElem?_cons_succ, bnd_ok, h, asB_b, Bool.not_false, if_true]
theorem sh_str : SeqAt.shaped (.str "ways") = true ∧ SeqAt.shaped (.str "side") = true ∧ SeqAt.shaped (.str "out") = true ∧ SeqAt.shaped (.str "at least") = true ∧ SeqAt.shaped (.str "at most") = true := by decide +kernel
theorem hEq_str {s t : Str} (h1 : SeqAt.shaped (.str s) = true) (h2 : SeqAt.shaped (.str t) = true) : hEq (.str s) (.str t) = .ok (.bool (s == t)) := by unfold hEq; rw [h1, h2]; simp [PyData.eqv]
theorem hNe_str {s t : Str} (h1 : SeqAt.shaped (.str s) = true) (h2 : SeqAt.shaped (.str t) = true) : hNe (.str s) (.str t) = .ok (.bool (!(s == t))) := by unfold hNe; rw [h1, h2]; simp [PyData.eqv]
end K58
end T_K58S

section T_K58E
set_option linter.all false
set_option maxRecDepth 100000
set_option maxHeartbeats 4000000
/-! K58E: judged_pair, judged_out, judged. -/
namespace K58
open PySem Sim FamA K59

def plB (n z : Int) : Bool := decide (0 ≤ z) && decide (z < n)
def pairB (n a b t : Int) : Bool := plB n a && (plB n b && (!(a == b) && !decide (t < 0)))
noncomputable def jpT : List Dt → O Bool := gOr (gNot (gTest (gCallN 2 f_is_place (gCons (gVar 0) (gCons (gVar 4) (gNil)))))) (gOr (gNot (gTest (gCallN 2 f_is_place (gCons (gVar 0) (gCons (gVar 5) (gNil)))))) (gOr (gTest (gOp hEq (gVar 4) (gVar 5))) (gOr (gNot (gTest (gCallN 1 f_is_whole (gCons (gVar 6) (gNil))))) (gTest (gOp hLt (gVar 6) (gC (.int (0))))))))
theorem jp_test (n a b t : Int) (R P w sh : Dt) : jpT [.int n, R, P, w, .int a, .int b, .int t, sh] = .ok (!pairB n a b t) := by
  unfold jpT pairB
  have c1 : gCallN 2 f_is_place (gCons (gVar 0) (gCons (gVar 4) (gNil))) [.int n, R, P, w, .int a, .int b, .int t, sh] = .ok (.bool (plB n a)) := callN_ok (ds := [.int n, .int a]) rfl rfl (place_ok n a)
  have c2 : gCallN 2 f_is_place (gCons (gVar 0) (gCons (gVar 5) (gNil))) [.int n, R, P, w, .int a, .int b, .int t, sh] = .ok (.bool (plB n b)) := callN_ok (ds := [.int n, .int b]) rfl rfl (place_ok n b)
  have c3 : gCallN 1 f_is_whole (gCons (gVar 6) (gNil)) [.int n, R, P, w, .int a, .int b, .int t, sh] = .ok (.bool true) := callN_ok (ds := [.int t]) rfl rfl (whole_int t)
  simp only [bnd_ok, gVar_def, gC_def, gOp_def, gUn_def, gNil_def, gCons_def, gIf_def, gTest_def, gNot_def, gAnd_def, gOr_def, gAndV_def, gOrV_def, gNotV_def, gCB_def, asB_b, hAdd_i, hSub_i, hLt_i, hLe_i, hGt_i, hGe_i, hMul_r, hMul_l, hMod_i, hDiv_s, hBand_i, hShr_i, hPow_10_18, hPow_10_27, hPow_10_28, hPow_10_29, hPow_10_30, hEq_i, hNe_i, hLen_l, hLen_t, hMin2_i, hMax2_i, hMin3_i, hInt1_b, hInt1_i, hBits_i, hListOf_l, hListOf_t, hTupOf_l, hTupOf_t, gSeqS_def, gSet_def, gRet_def, gIfS_def, gNext_def, gTup_def, gLst_def, List.getElem?_cons_zero, List.getElem?_cons_succ, List.set_cons_zero, List.set_cons_succ, List.length_cons, List.length_nil, Nat.zero_add, Nat.reduceAdd, Nat.reduceLeDiff, Nat.reduceSub, Nat.reduceMul, if_true, if_false, Bool.false_eq_true, List.replicate_succ, List.replicate_zero, List.cons_append, List.nil_append, tgN, tgT, tgCons, tgNil, Int.reducePow, Int.reduceAdd, Int.reduceSub, Int.reduceMul, decide_true, decide_false, Bool.not_true, Bool.not_false, gChain_def, hIsa_int, hIsa_intb, hIsa_list, hIsa_tuple, gDrop_def, c1, c2, c3]
  cases plB n a <;> cases plB n b <;> cases (a == b) <;> cases decide (t < 0) <;> rfl
theorem jp_testP {n : Int} {R P w a b t sh : Dt} (h : f_is_place [.int n, a] = .ok (.bool false)) : jpT [.int n, R, P, w, a, b, t, sh] = .ok true := by
  unfold jpT
  have c1 : gCallN 2 f_is_place (gCons (gVar 0) (gCons (gVar 4) (gNil))) [.int n, R, P, w, a, b, t, sh] = .ok (.bool false) := callN_ok (ds := [.int n, a]) rfl rfl h
  simp only [gOr_def, gNot_def, gTest_def, c1, bnd_ok, asB_b, Bool.not_false, if_true]
theorem jp_bad {n : Int} {R w a b t sh : Dt} (h : jpT [.int n, R, .tuple [w, a, b, t, sh], w, a, b, t, sh] = .ok true) : f_judged_pair [.int n, R, .tuple [w, a, b, t, sh]] = .ex NP := by
  refine fnNX_ex ?_
  show g_judged_pair [.int n, R, .tuple [w, a, b, t, sh], .none, .none, .none, .none, .none] = _
  unfold g_judged_pair
  refine seq_step (asg_ok (ρ' := [.int n, R, .tuple [w, a, b, t, sh], w, a, b, t, sh]) (by rfl) (by rfl)) ?_
  exact seq_ex ((if_t h).trans rfl)
theorem jp_word {n a b t : Int} {R sh : Dt} {w : Str} (h1 : SeqAt.shaped (.str w) = true) (h2 : (w == "ways") = false) (h3 : (w == "side") = false) : f_judged_pair [.int n, R, .tuple [.str w, .int a, .int b, .int t, sh]] = .ex NP := by
  have ht := jp_test n a b t R (.tuple [.str w, .int a, .int b, .int t, sh]) (.str w) sh
  cases hp : pairB n a b t with
  | false =>
    rw [hp] at ht
    exact jp_bad ht
  | true =>
    rw [hp] at ht
    refine fnNX_ex ?_
    show g_judged_pair [.int n, R, .tuple [.str w, .int a, .int b, .int t, sh], .none, .none, .none, .none, .none] = _
    unfold g_judged_pair
    refine seq_step (asg_ok (ρ' := [.int n, R, .tuple [.str w, .int a, .int b, .int t, sh], .str w, .int a, .int b, .int t, sh]) (by rfl) (by rfl)) ?_
    refine seq_step ((if_f ht).trans rfl) ?_
    have e1 := hEq_str h1 sh_str.1
    have e2 := hNe_str h1 sh_str.2.1
    rw [h2] at e1
    rw [h3] at e2
    refine seq_step ((if_f (by simp only [bnd_ok, gVar_def, gC_def, gOp_def, gUn_def, gNil_def, gCons_def, gIf_def, gTest_def, gNot_def, gAnd_def, gOr_def, gAndV_def, gOrV_def, gNotV_def, gCB_def, asB_b, hAdd_i, hSub_i, hLt_i, hLe_i, hGt_i, hGe_i, hMul_r, hMul_l, hMod_i, hDiv_s, hBand_i, hShr_i, hPow_10_18, hPow_10_27, hPow_10_28, hPow_10_29, hPow_10_30, hEq_i, hNe_i, hLen_l, hLen_t, hMin2_i, hMax2_i, hMin3_i, hInt1_b, hInt1_i, hBits_i, hListOf_l, hListOf_t, hTupOf_l, hTupOf_t, gSeqS_def, gSet_def, gRet_def, gIfS_def, gNext_def, gTup_def, gLst_def, List.getElem?_cons_zero, List.getElem?_cons_succ, List.set_cons_zero, List.set_cons_succ, List.length_cons, List.length_nil, Nat.zero_add, Nat.reduceAdd, Nat.reduceLeDiff, Nat.reduceSub, Nat.reduceMul, if_true, if_false, Bool.false_eq_true, List.replicate_succ, List.replicate_zero, List.cons_append, List.nil_append, tgN, tgT, tgCons, tgNil, Int.reducePow, Int.reduceAdd, Int.reduceSub, Int.reduceMul, decide_true, decide_false, Bool.not_true, Bool.not_false, gChain_def, hIsa_int, hIsa_intb, hIsa_list, hIsa_tuple, gDrop_def, e1])).trans rfl) ?_
    exact seq_ex ((if_t (by simp only [bnd_ok, gVar_def, gC_def, gOp_def, gUn_def, gNil_def, gCons_def, gIf_def, gTest_def, gNot_def, gAnd_def, gOr_def, gAndV_def, gOrV_def, gNotV_def, gCB_def, asB_b, hAdd_i, hSub_i, hLt_i, hLe_i, hGt_i, hGe_i, hMul_r, hMul_l, hMod_i, hDiv_s, hBand_i, hShr_i, hPow_10_18, hPow_10_27, hPow_10_28, hPow_10_29, hPow_10_30, hEq_i, hNe_i, hLen_l, hLen_t, hMin2_i, hMax2_i, hMin3_i, hInt1_b, hInt1_i, hBits_i, hListOf_l, hListOf_t, hTupOf_l, hTupOf_t, gSeqS_def, gSet_def, gRet_def, gIfS_def, gNext_def, gTup_def, gLst_def, List.getElem?_cons_zero, List.getElem?_cons_succ, List.set_cons_zero, List.set_cons_succ, List.length_cons, List.length_nil, Nat.zero_add, Nat.reduceAdd, Nat.reduceLeDiff, Nat.reduceSub, Nat.reduceMul, if_true, if_false, Bool.false_eq_true, List.replicate_succ, List.replicate_zero, List.cons_append, List.nil_append, tgN, tgT, tgCons, tgNil, Int.reducePow, Int.reduceAdd, Int.reduceSub, Int.reduceMul, decide_true, decide_false, Bool.not_true, Bool.not_false, gChain_def, hIsa_int, hIsa_intb, hIsa_list, hIsa_tuple, gDrop_def, e2])).trans rfl)
theorem gTup_ex {w : Str} {e : Exn} {g : Gd} {ρ : List Dt} (h : g ρ = .ex e) : gTup (gCons (gC (.str w)) (gCons g gNil)) ρ = .ex e := by
  rw [gTup_def, gCons_def, gC_def, bnd_ok, gCons_def, h]
  rfl
theorem gTup_ok {w : Str} {d : Dt} {g : Gd} {ρ : List Dt} (h : g ρ = .ok d) : gTup (gCons (gC (.str w)) (gCons g gNil)) ρ = .ok (.tuple [.str w, d]) := by
  rw [gTup_def, gCons_def, gC_def, bnd_ok, gCons_def, h]
  rfl
/-- a pair's ways, told or refused -/
theorem jp_ways {n a b t : Int} {r : List T3} {sh : Dt} (hl : r.length ≤ 1000) (hp : pairB n a b t = true) :
    (∀ d, f_many_ways [.list ((since t r).map enc3), .int a, .int b, sh] = .ok d → f_judged_pair [.int n, .list (r.map enc3), .tuple [.str "ways", .int a, .int b, .int t, sh]] = .ok (.tuple [.str "at least", d])) ∧
    (f_many_ways [.list ((since t r).map enc3), .int a, .int b, sh] = .ex NP → f_judged_pair [.int n, .list (r.map enc3), .tuple [.str "ways", .int a, .int b, .int t, sh]] = .ex NP) := by
  have ht := jp_test n a b t (.list (r.map enc3)) (.tuple [.str "ways", .int a, .int b, .int t, sh]) (.str "ways") sh
  rw [hp] at ht
  have e1 := hEq_str sh_str.1 sh_str.1
  rw [beq_self_eq_true] at e1
  have ts : gTest (gOp hEq (gVar 3) (gC (.str "ways"))) [.int n, .list (r.map enc3), .tuple [.str "ways", .int a, .int b, .int t, sh], .str "ways", .int a, .int b, .int t, sh] = .ok true := by simp only [bnd_ok, gVar_def, gC_def, gOp_def, gUn_def, gNil_def, gCons_def, gIf_def, gTest_def, gNot_def, gAnd_def, gOr_def, gAndV_def, gOrV_def, gNotV_def, gCB_def, asB_b, hAdd_i, hSub_i, hLt_i, hLe_i, hGt_i, hGe_i, hMul_r, hMul_l, hMod_i, hDiv_s, hBand_i, hShr_i, hPow_10_18, hPow_10_27, hPow_10_28, hPow_10_29, hPow_10_30, hEq_i, hNe_i, hLen_l, hLen_t, hMin2_i, hMax2_i, hMin3_i, hInt1_b, hInt1_i, hBits_i, hListOf_l, hListOf_t, hTupOf_l, hTupOf_t, gSeqS_def, gSet_def, gRet_def, gIfS_def, gNext_def, gTup_def, gLst_def, List.getElem?_cons_zero, List.getElem?_cons_succ, List.set_cons_zero, List.set_cons_succ, List.length_cons, List.length_nil, Nat.zero_add, Nat.reduceAdd, Nat.reduceLeDiff, Nat.reduceSub, Nat.reduceMul, if_true, if_false, Bool.false_eq_true, List.replicate_succ, List.replicate_zero, List.cons_append, List.nil_append, tgN, tgT, tgCons, tgNil, Int.reducePow, Int.reduceAdd, Int.reduceSub, Int.reduceMul, decide_true, decide_false, Bool.not_true, Bool.not_false, gChain_def, hIsa_int, hIsa_intb, hIsa_list, hIsa_tuple, gDrop_def, e1]
  have cs : gCallN 2 f_since (gCons (gVar 1) (gCons (gVar 6) (gNil))) [.int n, .list (r.map enc3), .tuple [.str "ways", .int a, .int b, .int t, sh], .str "ways", .int a, .int b, .int t, sh] = .ok (.list ((since t r).map enc3)) := callN_ok (ds := [.list (r.map enc3), .int t]) rfl rfl (since_ok r t hl)
  have ca : gCons (gCallN 2 f_since (gCons (gVar 1) (gCons (gVar 6) (gNil)))) (gCons (gVar 4) (gCons (gVar 5) (gCons (gVar 7) (gNil)))) [.int n, .list (r.map enc3), .tuple [.str "ways", .int a, .int b, .int t, sh], .str "ways", .int a, .int b, .int t, sh] = .ok [.list ((since t r).map enc3), .int a, .int b, sh] := by
    rw [gCons_def, cs]
    rfl
  refine ⟨fun d h => fnNX_rt ?_, fun h => fnNX_ex ?_⟩
  · show g_judged_pair [.int n, .list (r.map enc3), .tuple [.str "ways", .int a, .int b, .int t, sh], .none, .none, .none, .none, .none] = _
    unfold g_judged_pair
    refine seq_step (asg_ok (ρ' := [.int n, .list (r.map enc3), .tuple [.str "ways", .int a, .int b, .int t, sh], .str "ways", .int a, .int b, .int t, sh]) (by rfl) (by rfl)) ?_
    refine seq_step ((if_f ht).trans rfl) ?_
    exact seq_rt ((if_t ts).trans (ret_ok (gTup_ok (callX_ok ca rfl h))))
  · show g_judged_pair [.int n, .list (r.map enc3), .tuple [.str "ways", .int a, .int b, .int t, sh], .none, .none, .none, .none, .none] = _
    unfold g_judged_pair
    refine seq_step (asg_ok (ρ' := [.int n, .list (r.map enc3), .tuple [.str "ways", .int a, .int b, .int t, sh], .str "ways", .int a, .int b, .int t, sh]) (by rfl) (by rfl)) ?_
    refine seq_step ((if_f ht).trans rfl) ?_
    exact seq_ex ((if_t ts).trans (ret_ex (gTup_ex (callX_ex ca rfl h))))
/-- a pair's side that is no tuple -/
theorem jp_sideno {n a b t : Int} {R : Dt} {sh : Dt} (h : hIsa .tuple sh = .ok (.bool false)) : f_judged_pair [.int n, R, .tuple [.str "side", .int a, .int b, .int t, sh]] = .ex NP := by
  have ht := jp_test n a b t R (.tuple [.str "side", .int a, .int b, .int t, sh]) (.str "side") sh
  cases hp : pairB n a b t with
  | false =>
    rw [hp] at ht
    exact jp_bad ht
  | true =>
    rw [hp] at ht
    refine fnNX_ex ?_
    show g_judged_pair [.int n, R, .tuple [.str "side", .int a, .int b, .int t, sh], .none, .none, .none, .none, .none] = _
    unfold g_judged_pair
    refine seq_step (asg_ok (ρ' := [.int n, R, .tuple [.str "side", .int a, .int b, .int t, sh], .str "side", .int a, .int b, .int t, sh]) (by rfl) (by rfl)) ?_
    refine seq_step ((if_f ht).trans rfl) ?_
    have e1 : hEq (.str "side") (.str "ways") = .ok (.bool false) := hEq_str sh_str.2.1 sh_str.1
    have e2 : hNe (.str "side") (.str "side") = .ok (.bool false) := hNe_str sh_str.2.1 sh_str.2.1
    have c : gCallN 2 f_is_side (gCons (gVar 0) (gCons (gVar 7) (gNil))) [.int n, R, .tuple [.str "side", .int a, .int b, .int t, sh], .str "side", .int a, .int b, .int t, sh] = .ok (.bool false) := callN_ok (ds := [.int n, sh]) rfl rfl (side_no h)
    refine seq_step ((if_f (by simp only [bnd_ok, gVar_def, gC_def, gOp_def, gUn_def, gNil_def, gCons_def, gIf_def, gTest_def, gNot_def, gAnd_def, gOr_def, gAndV_def, gOrV_def, gNotV_def, gCB_def, asB_b, hAdd_i, hSub_i, hLt_i, hLe_i, hGt_i, hGe_i, hMul_r, hMul_l, hMod_i, hDiv_s, hBand_i, hShr_i, hPow_10_18, hPow_10_27, hPow_10_28, hPow_10_29, hPow_10_30, hEq_i, hNe_i, hLen_l, hLen_t, hMin2_i, hMax2_i, hMin3_i, hInt1_b, hInt1_i, hBits_i, hListOf_l, hListOf_t, hTupOf_l, hTupOf_t, gSeqS_def, gSet_def, gRet_def, gIfS_def, gNext_def, gTup_def, gLst_def, List.getElem?_cons_zero, List.getElem?_cons_succ, List.set_cons_zero, List.set_cons_succ, List.length_cons, List.length_nil, Nat.zero_add, Nat.reduceAdd, Nat.reduceLeDiff, Nat.reduceSub, Nat.reduceMul, if_true, if_false, Bool.false_eq_true, List.replicate_succ, List.replicate_zero, List.cons_append, List.nil_append, tgN, tgT, tgCons, tgNil, Int.reducePow, Int.reduceAdd, Int.reduceSub, Int.reduceMul, decide_true, decide_false, Bool.not_true, Bool.not_false, gChain_def, hIsa_int, hIsa_intb, hIsa_list, hIsa_tuple, gDrop_def, e1])).trans rfl) ?_
    exact seq_ex ((if_t (by simp only [bnd_ok, gVar_def, gC_def, gOp_def, gUn_def, gNil_def, gCons_def, gIf_def, gTest_def, gNot_def, gAnd_def, gOr_def, gAndV_def, gOrV_def, gNotV_def, gCB_def, asB_b, hAdd_i, hSub_i, hLt_i, hLe_i, hGt_i, hGe_i, hMul_r, hMul_l, hMod_i, hDiv_s, hBand_i, hShr_i, hPow_10_18, hPow_10_27, hPow_10_28, hPow_10_29, hPow_10_30, hEq_i, hNe_i, hLen_l, hLen_t, hMin2_i, hMax2_i, hMin3_i, hInt1_b, hInt1_i, hBits_i, hListOf_l, hListOf_t, hTupOf_l, hTupOf_t, gSeqS_def, gSet_def, gRet_def, gIfS_def, gNext_def, gTup_def, gLst_def, List.getElem?_cons_zero, List.getElem?_cons_succ, List.set_cons_zero, List.set_cons_succ, List.length_cons, List.length_nil, Nat.zero_add, Nat.reduceAdd, Nat.reduceLeDiff, Nat.reduceSub, Nat.reduceMul, if_true, if_false, Bool.false_eq_true, List.replicate_succ, List.replicate_zero, List.cons_append, List.nil_append, tgN, tgT, tgCons, tgNil, Int.reducePow, Int.reduceAdd, Int.reduceSub, Int.reduceMul, decide_true, decide_false, Bool.not_true, Bool.not_false, gChain_def, hIsa_int, hIsa_intb, hIsa_list, hIsa_tuple, gDrop_def, e2, c])).trans rfl)
def sideB (n a b : Int) (S : List Int) : Bool := (inB n S && adjB S) && (decide (a ∈ S) && !decide (b ∈ S))
theorem hNotIn_intsT (p : Int) (S : List Int) : hNotIn (.int p) (.tuple (S.map .int)) = .ok (.bool (!decide (p ∈ S))) := by
  have h : (if (SeqAt.shaped (.int p) && SeqAt.shaped (.tuple (S.map .int))) = true then (.ok (.bool ((S.map PyData.int).any fun z => z.eqv (.int p))) : O Dt) else .bad) = .ok (.bool (decide (p ∈ S))) := hIn_intsT p S
  show (if (SeqAt.shaped (.int p) && SeqAt.shaped (.tuple (S.map .int))) = true then (.ok (.bool (!(S.map PyData.int).any fun z => z.eqv (.int p))) : O Dt) else .bad) = _
  by_cases c : (SeqAt.shaped (.int p) && SeqAt.shaped (.tuple (S.map .int))) = true
  · rw [if_pos c] at h ⊢
    injection h with h
    injection h with h
    rw [h]
  · rw [if_neg c] at h
    cases h
theorem jp_side {n a b t : Int} {r : List T3} {S : List Int} (hl : r.length ≤ 1000) (hS : S.length ≤ 1000) : f_judged_pair [.int n, .list (r.map enc3), .tuple [.str "side", .int a, .int b, .int t, .tuple (S.map .int)]] =
    if pairB n a b t && sideB n a b S then .ok (.tuple [.str "at most", .int ((since t r).filter (rimC S)).length]) else .ex NP := by
  have ht := jp_test n a b t (.list (r.map enc3)) (.tuple [.str "side", .int a, .int b, .int t, .tuple (S.map .int)]) (.str "side") (.tuple (S.map .int))
  cases hp : pairB n a b t with
  | false =>
    rw [hp] at ht
    exact jp_bad ht
  | true =>
    rw [hp] at ht
    have e1 : hEq (.str "side") (.str "ways") = .ok (.bool false) := hEq_str sh_str.2.1 sh_str.1
    have e2 : hNe (.str "side") (.str "side") = .ok (.bool false) := hNe_str sh_str.2.1 sh_str.2.1
    have c : gCallN 2 f_is_side (gCons (gVar 0) (gCons (gVar 7) (gNil))) [.int n, .list (r.map enc3), .tuple [.str "side", .int a, .int b, .int t, .tuple (S.map .int)], .str "side", .int a, .int b, .int t, .tuple (S.map .int)] = .ok (.bool (inB n S && adjB S)) := callN_ok (ds := [.int n, .tuple (S.map .int)]) rfl rfl (side_ok hS)
    have c3 : gTest (gOp hNotIn (gVar 4) (gVar 7)) [.int n, .list (r.map enc3), .tuple [.str "side", .int a, .int b, .int t, .tuple (S.map .int)], .str "side", .int a, .int b, .int t, .tuple (S.map .int)] = .ok (!decide (a ∈ S)) := by
      simp only [bnd_ok, gVar_def, gC_def, gOp_def, gUn_def, gNil_def, gCons_def, gIf_def, gTest_def, gNot_def, gAnd_def, gOr_def, gAndV_def, gOrV_def, gNotV_def, gCB_def, asB_b, hAdd_i, hSub_i, hLt_i, hLe_i, hGt_i, hGe_i, hMul_r, hMul_l, hMod_i, hDiv_s, hBand_i, hShr_i, hPow_10_18, hPow_10_27, hPow_10_28, hPow_10_29, hPow_10_30, hEq_i, hNe_i, hLen_l, hLen_t, hMin2_i, hMax2_i, hMin3_i, hInt1_b, hInt1_i, hBits_i, hListOf_l, hListOf_t, hTupOf_l, hTupOf_t, gSeqS_def, gSet_def, gRet_def, gIfS_def, gNext_def, gTup_def, gLst_def, List.getElem?_cons_zero, List.getElem?_cons_succ, List.set_cons_zero, List.set_cons_succ, List.length_cons, List.length_nil, Nat.zero_add, Nat.reduceAdd, Nat.reduceLeDiff, Nat.reduceSub, Nat.reduceMul, if_true, if_false, Bool.false_eq_true, List.replicate_succ, List.replicate_zero, List.cons_append, List.nil_append, tgN, tgT, tgCons, tgNil, Int.reducePow, Int.reduceAdd, Int.reduceSub, Int.reduceMul, decide_true, decide_false, Bool.not_true, Bool.not_false, gChain_def, hIsa_int, hIsa_intb, hIsa_list, hIsa_tuple, gDrop_def, hNotIn_intsT]
    have c4 : gTest (gOp hIn (gVar 5) (gVar 7)) [.int n, .list (r.map enc3), .tuple [.str "side", .int a, .int b, .int t, .tuple (S.map .int)], .str "side", .int a, .int b, .int t, .tuple (S.map .int)] = .ok (decide (b ∈ S)) := by
      simp only [bnd_ok, gVar_def, gC_def, gOp_def, gUn_def, gNil_def, gCons_def, gIf_def, gTest_def, gNot_def, gAnd_def, gOr_def, gAndV_def, gOrV_def, gNotV_def, gCB_def, asB_b, hAdd_i, hSub_i, hLt_i, hLe_i, hGt_i, hGe_i, hMul_r, hMul_l, hMod_i, hDiv_s, hBand_i, hShr_i, hPow_10_18, hPow_10_27, hPow_10_28, hPow_10_29, hPow_10_30, hEq_i, hNe_i, hLen_l, hLen_t, hMin2_i, hMax2_i, hMin3_i, hInt1_b, hInt1_i, hBits_i, hListOf_l, hListOf_t, hTupOf_l, hTupOf_t, gSeqS_def, gSet_def, gRet_def, gIfS_def, gNext_def, gTup_def, gLst_def, List.getElem?_cons_zero, List.getElem?_cons_succ, List.set_cons_zero, List.set_cons_succ, List.length_cons, List.length_nil, Nat.zero_add, Nat.reduceAdd, Nat.reduceLeDiff, Nat.reduceSub, Nat.reduceMul, if_true, if_false, Bool.false_eq_true, List.replicate_succ, List.replicate_zero, List.cons_append, List.nil_append, tgN, tgT, tgCons, tgNil, Int.reducePow, Int.reduceAdd, Int.reduceSub, Int.reduceMul, decide_true, decide_false, Bool.not_true, Bool.not_false, gChain_def, hIsa_int, hIsa_intb, hIsa_list, hIsa_tuple, gDrop_def, hIn_intsT]
    have tt : gOr (gTest (gOp hNe (gVar 3) (gC (.str "side")))) (gOr (gNot (gTest (gCallN 2 f_is_side (gCons (gVar 0) (gCons (gVar 7) (gNil)))))) (gOr (gTest (gOp hNotIn (gVar 4) (gVar 7))) (gTest (gOp hIn (gVar 5) (gVar 7))))) [.int n, .list (r.map enc3), .tuple [.str "side", .int a, .int b, .int t, .tuple (S.map .int)], .str "side", .int a, .int b, .int t, .tuple (S.map .int)] = .ok (!sideB n a b S) := by
      unfold sideB
      rw [gOr_def, gOr_def, gOr_def, gNot_def, c3, c4, gTest_def, gTest_def, c, gOp_def]
      simp only [bnd_ok, gVar_def, gC_def, gOp_def, gUn_def, gNil_def, gCons_def, gIf_def, gTest_def, gNot_def, gAnd_def, gOr_def, gAndV_def, gOrV_def, gNotV_def, gCB_def, asB_b, hAdd_i, hSub_i, hLt_i, hLe_i, hGt_i, hGe_i, hMul_r, hMul_l, hMod_i, hDiv_s, hBand_i, hShr_i, hPow_10_18, hPow_10_27, hPow_10_28, hPow_10_29, hPow_10_30, hEq_i, hNe_i, hLen_l, hLen_t, hMin2_i, hMax2_i, hMin3_i, hInt1_b, hInt1_i, hBits_i, hListOf_l, hListOf_t, hTupOf_l, hTupOf_t, gSeqS_def, gSet_def, gRet_def, gIfS_def, gNext_def, gTup_def, gLst_def, List.getElem?_cons_zero, List.getElem?_cons_succ, List.set_cons_zero, List.set_cons_succ, List.length_cons, List.length_nil, Nat.zero_add, Nat.reduceAdd, Nat.reduceLeDiff, Nat.reduceSub, Nat.reduceMul, if_true, if_false, Bool.false_eq_true, List.replicate_succ, List.replicate_zero, List.cons_append, List.nil_append, tgN, tgT, tgCons, tgNil, Int.reducePow, Int.reduceAdd, Int.reduceSub, Int.reduceMul, decide_true, decide_false, Bool.not_true, Bool.not_false, gChain_def, hIsa_int, hIsa_intb, hIsa_list, hIsa_tuple, gDrop_def, e2]
      cases (inB n S && adjB S) <;> cases decide (a ∈ S) <;> cases decide (b ∈ S) <;> rfl
    cases hs : sideB n a b S with
    | false =>
      rw [hs] at tt
      refine fnNX_ex ?_
      show g_judged_pair [.int n, .list (r.map enc3), .tuple [.str "side", .int a, .int b, .int t, .tuple (S.map .int)], .none, .none, .none, .none, .none] = _
      unfold g_judged_pair
      refine seq_step (asg_ok (ρ' := [.int n, .list (r.map enc3), .tuple [.str "side", .int a, .int b, .int t, .tuple (S.map .int)], .str "side", .int a, .int b, .int t, .tuple (S.map .int)]) (by rfl) (by rfl)) ?_
      refine seq_step ((if_f ht).trans rfl) ?_
      refine seq_step ((if_f (by simp only [bnd_ok, gVar_def, gC_def, gOp_def, gUn_def, gNil_def, gCons_def, gIf_def, gTest_def, gNot_def, gAnd_def, gOr_def, gAndV_def, gOrV_def, gNotV_def, gCB_def, asB_b, hAdd_i, hSub_i, hLt_i, hLe_i, hGt_i, hGe_i, hMul_r, hMul_l, hMod_i, hDiv_s, hBand_i, hShr_i, hPow_10_18, hPow_10_27, hPow_10_28, hPow_10_29, hPow_10_30, hEq_i, hNe_i, hLen_l, hLen_t, hMin2_i, hMax2_i, hMin3_i, hInt1_b, hInt1_i, hBits_i, hListOf_l, hListOf_t, hTupOf_l, hTupOf_t, gSeqS_def, gSet_def, gRet_def, gIfS_def, gNext_def, gTup_def, gLst_def, List.getElem?_cons_zero, List.getElem?_cons_succ, List.set_cons_zero, List.set_cons_succ, List.length_cons, List.length_nil, Nat.zero_add, Nat.reduceAdd, Nat.reduceLeDiff, Nat.reduceSub, Nat.reduceMul, if_true, if_false, Bool.false_eq_true, List.replicate_succ, List.replicate_zero, List.cons_append, List.nil_append, tgN, tgT, tgCons, tgNil, Int.reducePow, Int.reduceAdd, Int.reduceSub, Int.reduceMul, decide_true, decide_false, Bool.not_true, Bool.not_false, gChain_def, hIsa_int, hIsa_intb, hIsa_list, hIsa_tuple, gDrop_def, e1])).trans rfl) ?_
      exact seq_ex ((if_t tt).trans rfl)
    | true =>
      rw [hs] at tt
      refine fnNX_rt ?_
      show g_judged_pair [.int n, .list (r.map enc3), .tuple [.str "side", .int a, .int b, .int t, .tuple (S.map .int)], .none, .none, .none, .none, .none] = _
      unfold g_judged_pair
      refine seq_step (asg_ok (ρ' := [.int n, .list (r.map enc3), .tuple [.str "side", .int a, .int b, .int t, .tuple (S.map .int)], .str "side", .int a, .int b, .int t, .tuple (S.map .int)]) (by rfl) (by rfl)) ?_
      refine seq_step ((if_f ht).trans rfl) ?_
      refine seq_step ((if_f (by simp only [bnd_ok, gVar_def, gC_def, gOp_def, gUn_def, gNil_def, gCons_def, gIf_def, gTest_def, gNot_def, gAnd_def, gOr_def, gAndV_def, gOrV_def, gNotV_def, gCB_def, asB_b, hAdd_i, hSub_i, hLt_i, hLe_i, hGt_i, hGe_i, hMul_r, hMul_l, hMod_i, hDiv_s, hBand_i, hShr_i, hPow_10_18, hPow_10_27, hPow_10_28, hPow_10_29, hPow_10_30, hEq_i, hNe_i, hLen_l, hLen_t, hMin2_i, hMax2_i, hMin3_i, hInt1_b, hInt1_i, hBits_i, hListOf_l, hListOf_t, hTupOf_l, hTupOf_t, gSeqS_def, gSet_def, gRet_def, gIfS_def, gNext_def, gTup_def, gLst_def, List.getElem?_cons_zero, List.getElem?_cons_succ, List.set_cons_zero, List.set_cons_succ, List.length_cons, List.length_nil, Nat.zero_add, Nat.reduceAdd, Nat.reduceLeDiff, Nat.reduceSub, Nat.reduceMul, if_true, if_false, Bool.false_eq_true, List.replicate_succ, List.replicate_zero, List.cons_append, List.nil_append, tgN, tgT, tgCons, tgNil, Int.reducePow, Int.reduceAdd, Int.reduceSub, Int.reduceMul, decide_true, decide_false, Bool.not_true, Bool.not_false, gChain_def, hIsa_int, hIsa_intb, hIsa_list, hIsa_tuple, gDrop_def, e1])).trans rfl) ?_
      refine seq_step ((if_f tt).trans rfl) ?_
      have hsl : (since t r).length ≤ 1000 := Nat.le_trans (List.length_filter_le _ _) hl
      have cs : gCallN 2 f_since (gCons (gVar 1) (gCons (gVar 6) (gNil))) [.int n, .list (r.map enc3), .tuple [.str "side", .int a, .int b, .int t, .tuple (S.map .int)], .str "side", .int a, .int b, .int t, .tuple (S.map .int)] = .ok (.list ((since t r).map enc3)) := callN_ok (ds := [.list (r.map enc3), .int t]) rfl rfl (since_ok r t hl)
      have cr : gCallN 2 f_rim (gCons (gCallN 2 f_since (gCons (gVar 1) (gCons (gVar 6) (gNil)))) (gCons (gVar 7) (gNil))) [.int n, .list (r.map enc3), .tuple [.str "side", .int a, .int b, .int t, .tuple (S.map .int)], .str "side", .int a, .int b, .int t, .tuple (S.map .int)] = .ok (.list ((rimM (since t r) S).map .int)) :=
        callN_ok (ds := [.list ((since t r).map enc3), .tuple (S.map .int)]) (by rw [gCons_def, cs]; rfl) rfl (rim_ok (since t r) S hsl)
      refine ret_ok (gTup_ok ?_)
      rw [gCB_def, gCons_def, cr]
      simp only [bnd_ok, gNil_def, hLen_l, List.length_map]
      unfold rimM
      rw [List.length_map]
/-! ### out -/
theorem jo_body {t : T3} {R P w W : Dt} {m : Int} : gAnd (gTest (gOp hEq (gOp hIx (gVar 5) (gC (.int (0)))) (gVar 3))) (gTest (gOp hNe (gOp hIx (gVar 5) (gC (.int (1)))) (gOp hIx (gVar 5) (gC (.int (2)))))) [R, P, w, .int m, W, enc3 t] = .ok (t.1 == m && ne3 t) := by
  have e1 : gTest (gOp hEq (gOp hIx (gVar 5) (gC (.int (0)))) (gVar 3)) [R, P, w, .int m, W, enc3 t] = .ok (t.1 == m) := by simp only [bnd_ok, gVar_def, gC_def, gOp_def, gUn_def, gNil_def, gCons_def, gIf_def, gTest_def, gNot_def, gAnd_def, gOr_def, gAndV_def, gOrV_def, gNotV_def, gCB_def, asB_b, hAdd_i, hSub_i, hLt_i, hLe_i, hGt_i, hGe_i, hMul_r, hMul_l, hMod_i, hDiv_s, hBand_i, hShr_i, hPow_10_18, hPow_10_27, hPow_10_28, hPow_10_29, hPow_10_30, hEq_i, hNe_i, hLen_l, hLen_t, hMin2_i, hMax2_i, hMin3_i, hInt1_b, hInt1_i, hBits_i, hListOf_l, hListOf_t, hTupOf_l, hTupOf_t, gSeqS_def, gSet_def, gRet_def, gIfS_def, gNext_def, gTup_def, gLst_def, List.getElem?_cons_zero, List.getElem?_cons_succ, List.set_cons_zero, List.set_cons_succ, List.length_cons, List.length_nil, Nat.zero_add, Nat.reduceAdd, Nat.reduceLeDiff, Nat.reduceSub, Nat.reduceMul, if_true, if_false, Bool.false_eq_true, List.replicate_succ, List.replicate_zero, List.cons_append, List.nil_append, tgN, tgT, tgCons, tgNil, Int.reducePow, Int.reduceAdd, Int.reduceSub, Int.reduceMul, decide_true, decide_false, Bool.not_true, Bool.not_false, gChain_def, hIsa_int, hIsa_intb, hIsa_list, hIsa_tuple, gDrop_def, ix3_0]
  have e2 : gTest (gOp hNe (gOp hIx (gVar 5) (gC (.int (1)))) (gOp hIx (gVar 5) (gC (.int (2))))) [R, P, w, .int m, W, enc3 t] = .ok (ne3 t) := by
    simp only [bnd_ok, gVar_def, gC_def, gOp_def, gUn_def, gNil_def, gCons_def, gIf_def, gTest_def, gNot_def, gAnd_def, gOr_def, gAndV_def, gOrV_def, gNotV_def, gCB_def, asB_b, hAdd_i, hSub_i, hLt_i, hLe_i, hGt_i, hGe_i, hMul_r, hMul_l, hMod_i, hDiv_s, hBand_i, hShr_i, hPow_10_18, hPow_10_27, hPow_10_28, hPow_10_29, hPow_10_30, hEq_i, hNe_i, hLen_l, hLen_t, hMin2_i, hMax2_i, hMin3_i, hInt1_b, hInt1_i, hBits_i, hListOf_l, hListOf_t, hTupOf_l, hTupOf_t, gSeqS_def, gSet_def, gRet_def, gIfS_def, gNext_def, gTup_def, gLst_def, List.getElem?_cons_zero, List.getElem?_cons_succ, List.set_cons_zero, List.set_cons_succ, List.length_cons, List.length_nil, Nat.zero_add, Nat.reduceAdd, Nat.reduceLeDiff, Nat.reduceSub, Nat.reduceMul, if_true, if_false, Bool.false_eq_true, List.replicate_succ, List.replicate_zero, List.cons_append, List.nil_append, tgN, tgT, tgCons, tgNil, Int.reducePow, Int.reduceAdd, Int.reduceSub, Int.reduceMul, decide_true, decide_false, Bool.not_true, Bool.not_false, gChain_def, hIsa_int, hIsa_intb, hIsa_list, hIsa_tuple, gDrop_def, ix3_1, ix3_2]
    rfl
  rw [gAnd_def, e1, bnd_ok, e2]
  cases (t.1 == m) <;> rfl
def outAt (r : List T3) (m : Int) : Option T3 := r.find? fun t => t.1 == m && ne3 t
theorem jo_walk (r : List T3) (hl : r.length ≤ 1000) (P w W : Dt) (m : Int) : ∀ (s : List T3) (x : Dt),
    (outAt s m = none ∧ ∃ y, forE (tgN 5) g_judged_out_L1 (s.map enc3) [.list (r.map enc3), P, w, .int m, W, x] = .ok (.nx [.list (r.map enc3), P, w, .int m, W, y])) ∨
    (∃ t, outAt s m = some t ∧ (∀ d, f_many_ways [.list ((since (m + 1) r).map enc3), .int t.2.1, .int t.2.2, W] = .ok d → forE (tgN 5) g_judged_out_L1 (s.map enc3) [.list (r.map enc3), P, w, .int m, W, x] = .ok (.rt (.tuple [.str "out", d]))) ∧
      (f_many_ways [.list ((since (m + 1) r).map enc3), .int t.2.1, .int t.2.2, W] = .ex NP → forE (tgN 5) g_judged_out_L1 (s.map enc3) [.list (r.map enc3), P, w, .int m, W, x] = .ex NP))
  | [], x => .inl ⟨rfl, _, rfl⟩
  | t :: s, x => by
    have et : tgN 5 (enc3 t) [.list (r.map enc3), P, w, .int m, W, x] = .ok [.list (r.map enc3), P, w, .int m, W, enc3 t] := rfl
    have tb := jo_body (t := t) (R := .list (r.map enc3)) (P := P) (w := w) (W := W) (m := m)
    have ho : outAt (t :: s) m = if (t.1 == m && ne3 t) then some t else outAt s m := by
      unfold outAt
      rw [List.find?_cons]
      cases (t.1 == m && ne3 t) <;> rfl
    rw [ho]
    cases hc : (t.1 == m && ne3 t) with
    | false =>
      rw [hc] at tb
      have e : g_judged_out_L1 [.list (r.map enc3), P, w, .int m, W, enc3 t] = .ok (.nx [.list (r.map enc3), P, w, .int m, W, enc3 t]) := (if_f tb).trans rfl
      have es : forE (tgN 5) g_judged_out_L1 ((t :: s).map enc3) [.list (r.map enc3), P, w, .int m, W, x] = forE (tgN 5) g_judged_out_L1 (s.map enc3) [.list (r.map enc3), P, w, .int m, W, enc3 t] := by
        rw [List.map_cons]
        conv => lhs; unfold forE
        simp only [et, e, bnd_ok]
      rw [es]
      simp only [Bool.false_eq_true, if_false]
      exact jo_walk r hl P w W m s (enc3 t)
    | true =>
      rw [hc] at tb
      have cs : gCallN 2 f_since (gCons (gVar 0) (gCons (gOp hAdd (gVar 3) (gC (.int (1)))) (gNil))) [.list (r.map enc3), P, w, .int m, W, enc3 t] = .ok (.list ((since (m + 1) r).map enc3)) := callN_ok (ds := [.list (r.map enc3), .int (m + 1)]) (by simp only [bnd_ok, gVar_def, gC_def, gOp_def, gUn_def, gNil_def, gCons_def, gIf_def, gTest_def, gNot_def, gAnd_def, gOr_def, gAndV_def, gOrV_def, gNotV_def, gCB_def, asB_b, hAdd_i, hSub_i, hLt_i, hLe_i, hGt_i, hGe_i, hMul_r, hMul_l, hMod_i, hDiv_s, hBand_i, hShr_i, hPow_10_18, hPow_10_27, hPow_10_28, hPow_10_29, hPow_10_30, hEq_i, hNe_i, hLen_l, hLen_t, hMin2_i, hMax2_i, hMin3_i, hInt1_b, hInt1_i, hBits_i, hListOf_l, hListOf_t, hTupOf_l, hTupOf_t, gSeqS_def, gSet_def, gRet_def, gIfS_def, gNext_def, gTup_def, gLst_def, List.getElem?_cons_zero, List.getElem?_cons_succ, List.set_cons_zero, List.set_cons_succ, List.length_cons, List.length_nil, Nat.zero_add, Nat.reduceAdd, Nat.reduceLeDiff, Nat.reduceSub, Nat.reduceMul, if_true, if_false, Bool.false_eq_true, List.replicate_succ, List.replicate_zero, List.cons_append, List.nil_append, tgN, tgT, tgCons, tgNil, Int.reducePow, Int.reduceAdd, Int.reduceSub, Int.reduceMul, decide_true, decide_false, Bool.not_true, Bool.not_false, gChain_def, hIsa_int, hIsa_intb, hIsa_list, hIsa_tuple, gDrop_def]) rfl (since_ok r (m + 1) hl)
      have ca : gCons (gCallN 2 f_since (gCons (gVar 0) (gCons (gOp hAdd (gVar 3) (gC (.int (1)))) (gNil)))) (gCons (gOp hIx (gVar 5) (gC (.int (1)))) (gCons (gOp hIx (gVar 5) (gC (.int (2)))) (gCons (gVar 4) (gNil)))) [.list (r.map enc3), P, w, .int m, W, enc3 t] = .ok [.list ((since (m + 1) r).map enc3), .int t.2.1, .int t.2.2, W] := by
        rw [gCons_def, cs]
        rfl
      refine .inr ⟨t, rfl, fun d h => ?_, fun h => ?_⟩
      · have e : g_judged_out_L1 [.list (r.map enc3), P, w, .int m, W, enc3 t] = .ok (.rt (.tuple [.str "out", d])) := (if_t tb).trans (ret_ok (gTup_ok (callX_ok ca rfl h)))
        rw [List.map_cons]
        unfold forE
        simp only [et, e, bnd_ok]
      · have e : g_judged_out_L1 [.list (r.map enc3), P, w, .int m, W, enc3 t] = .ex NP := (if_t tb).trans (ret_ex (gTup_ex (callX_ex ca rfl h)))
        rw [List.map_cons]
        unfold forE
        simp only [et, e, bnd_ok]
        rfl
theorem for_ex {gi : List Dt → O (List Dt)} {h : Dt → List Dt → O (List Dt)} {b : Gs} {ρ ds : List Dt} {e : Exn} (h1 : gi ρ = .ok ds) (h2 : forE h b ds ρ = .ex e) : gFor gi h b ρ = .ex e := by
  unfold gFor
  rw [h1, bnd_ok, h2]
theorem jo_ok {r : List T3} {W : Dt} {m : Int} (hl : r.length ≤ 1000) :
    (outAt r m = none → f_judged_out [.list (r.map enc3), .tuple [.str "out", .int m, W]] = .ex NP) ∧
    (∀ t, outAt r m = some t → (∀ d, f_many_ways [.list ((since (m + 1) r).map enc3), .int t.2.1, .int t.2.2, W] = .ok d → f_judged_out [.list (r.map enc3), .tuple [.str "out", .int m, W]] = .ok (.tuple [.str "out", d])) ∧
      (f_many_ways [.list ((since (m + 1) r).map enc3), .int t.2.1, .int t.2.2, W] = .ex NP → f_judged_out [.list (r.map enc3), .tuple [.str "out", .int m, W]] = .ex NP)) := by
  have h0 : hNe (.str "out") (.str "out") = .ok (.bool false) := hNe_str sh_str.2.2.1 sh_str.2.2.1
  have c : gCallN 1 f_is_whole (gCons (gVar 3) (gNil)) [.list (r.map enc3), .tuple [.str "out", .int m, W], .str "out", .int m, W, .none] = .ok (.bool true) := callN_ok (ds := [.int m]) rfl rfl (whole_int m)
  have tt : gOr (gTest (gOp hNe (gVar 2) (gC (.str "out")))) (gNot (gTest (gCallN 1 f_is_whole (gCons (gVar 3) (gNil))))) [.list (r.map enc3), .tuple [.str "out", .int m, W], .str "out", .int m, W, .none] = .ok false := by
    simp only [bnd_ok, gVar_def, gC_def, gOp_def, gUn_def, gNil_def, gCons_def, gIf_def, gTest_def, gNot_def, gAnd_def, gOr_def, gAndV_def, gOrV_def, gNotV_def, gCB_def, asB_b, hAdd_i, hSub_i, hLt_i, hLe_i, hGt_i, hGe_i, hMul_r, hMul_l, hMod_i, hDiv_s, hBand_i, hShr_i, hPow_10_18, hPow_10_27, hPow_10_28, hPow_10_29, hPow_10_30, hEq_i, hNe_i, hLen_l, hLen_t, hMin2_i, hMax2_i, hMin3_i, hInt1_b, hInt1_i, hBits_i, hListOf_l, hListOf_t, hTupOf_l, hTupOf_t, gSeqS_def, gSet_def, gRet_def, gIfS_def, gNext_def, gTup_def, gLst_def, List.getElem?_cons_zero, List.getElem?_cons_succ, List.set_cons_zero, List.set_cons_succ, List.length_cons, List.length_nil, Nat.zero_add, Nat.reduceAdd, Nat.reduceLeDiff, Nat.reduceSub, Nat.reduceMul, if_true, if_false, Bool.false_eq_true, List.replicate_succ, List.replicate_zero, List.cons_append, List.nil_append, tgN, tgT, tgCons, tgNil, Int.reducePow, Int.reduceAdd, Int.reduceSub, Int.reduceMul, decide_true, decide_false, Bool.not_true, Bool.not_false, gChain_def, hIsa_int, hIsa_intb, hIsa_list, hIsa_tuple, gDrop_def, h0, c]
  have hw := jo_walk r hl (.tuple [.str "out", .int m, W]) (.str "out") W m r .none
  have start : ∀ z, gSeqS (gFor (gSeq (gVar 0)) (tgN 5) g_judged_out_L1) (gRaise "NoPaper") [.list (r.map enc3), .tuple [.str "out", .int m, W], .str "out", .int m, W, .none] = z → g_judged_out [.list (r.map enc3), .tuple [.str "out", .int m, W], .none, .none, .none, .none] = z := fun z h => by
    unfold g_judged_out
    refine seq_step (asg_ok (ρ' := [.list (r.map enc3), .tuple [.str "out", .int m, W], .str "out", .int m, W, .none]) (by rfl) (by rfl)) ?_
    exact seq_step ((if_f tt).trans rfl) h
  have hq : gSeq (gVar 0) [.list (r.map enc3), .tuple [.str "out", .int m, W], .str "out", .int m, W, .none] = .ok (r.map enc3) := seqG_l rfl
  refine ⟨fun hn => fnNX_ex (start _ ?_), fun t ht => ⟨fun d h => fnNX_rt (start _ ?_), fun h => fnNX_ex (start _ ?_)⟩⟩
  · rcases hw with ⟨_, y, h⟩ | ⟨t, h, _⟩
    · exact seq_step (for_ok hq h) rfl
    · rw [hn] at h; cases h
  · rcases hw with ⟨h', _⟩ | ⟨t', h', k1, k2⟩
    · rw [ht] at h'; cases h'
    · rw [ht] at h'
      obtain rfl := Option.some.inj h'
      exact seq_rt (for_ok hq (k1 d h))
  · rcases hw with ⟨h', _⟩ | ⟨t', h', k1, k2⟩
    · rw [ht] at h'; cases h'
    · rw [ht] at h'
      obtain rfl := Option.some.inj h'
      exact seq_ex (for_ex hq (k2 h))
/-- no word "out" or no whole moment -/
theorem jo_bad {R w m W : Dt} (h : (∃ s, w = .str s ∧ SeqAt.shaped w = true ∧ (s == "out") = false) ∨ (w = .str "out" ∧ f_is_whole [m] = .ok (.bool false))) : f_judged_out [R, .tuple [w, m, W]] = .ex NP := by
  refine fnNX_ex ?_
  show g_judged_out [R, .tuple [w, m, W], .none, .none, .none, .none] = _
  unfold g_judged_out
  refine seq_step (asg_ok (ρ' := [R, .tuple [w, m, W], w, m, W, .none]) (by rfl) (by rfl)) ?_
  rcases h with ⟨s, rfl, h1, h2⟩ | ⟨rfl, h⟩
  · have h0 := hNe_str h1 sh_str.2.2.1
    rw [h2] at h0
    exact seq_ex ((if_t (by simp only [bnd_ok, gVar_def, gC_def, gOp_def, gUn_def, gNil_def, gCons_def, gIf_def, gTest_def, gNot_def, gAnd_def, gOr_def, gAndV_def, gOrV_def, gNotV_def, gCB_def, asB_b, hAdd_i, hSub_i, hLt_i, hLe_i, hGt_i, hGe_i, hMul_r, hMul_l, hMod_i, hDiv_s, hBand_i, hShr_i, hPow_10_18, hPow_10_27, hPow_10_28, hPow_10_29, hPow_10_30, hEq_i, hNe_i, hLen_l, hLen_t, hMin2_i, hMax2_i, hMin3_i, hInt1_b, hInt1_i, hBits_i, hListOf_l, hListOf_t, hTupOf_l, hTupOf_t, gSeqS_def, gSet_def, gRet_def, gIfS_def, gNext_def, gTup_def, gLst_def, List.getElem?_cons_zero, List.getElem?_cons_succ, List.set_cons_zero, List.set_cons_succ, List.length_cons, List.length_nil, Nat.zero_add, Nat.reduceAdd, Nat.reduceLeDiff, Nat.reduceSub, Nat.reduceMul, if_true, if_false, Bool.false_eq_true, List.replicate_succ, List.replicate_zero, List.cons_append, List.nil_append, tgN, tgT, tgCons, tgNil, Int.reducePow, Int.reduceAdd, Int.reduceSub, Int.reduceMul, decide_true, decide_false, Bool.not_true, Bool.not_false, gChain_def, hIsa_int, hIsa_intb, hIsa_list, hIsa_tuple, gDrop_def, h0])).trans rfl)
  · have h0 : hNe (.str "out") (.str "out") = .ok (.bool false) := hNe_str sh_str.2.2.1 sh_str.2.2.1
    have c : gCallN 1 f_is_whole (gCons (gVar 3) (gNil)) [R, .tuple [.str "out", m, W], .str "out", m, W, .none] = .ok (.bool false) := callN_ok (ds := [m]) rfl rfl h
    exact seq_ex ((if_t (by simp only [bnd_ok, gVar_def, gC_def, gOp_def, gUn_def, gNil_def, gCons_def, gIf_def, gTest_def, gNot_def, gAnd_def, gOr_def, gAndV_def, gOrV_def, gNotV_def, gCB_def, asB_b, hAdd_i, hSub_i, hLt_i, hLe_i, hGt_i, hGe_i, hMul_r, hMul_l, hMod_i, hDiv_s, hBand_i, hShr_i, hPow_10_18, hPow_10_27, hPow_10_28, hPow_10_29, hPow_10_30, hEq_i, hNe_i, hLen_l, hLen_t, hMin2_i, hMax2_i, hMin3_i, hInt1_b, hInt1_i, hBits_i, hListOf_l, hListOf_t, hTupOf_l, hTupOf_t, gSeqS_def, gSet_def, gRet_def, gIfS_def, gNext_def, gTup_def, gLst_def, List.getElem?_cons_zero, List.getElem?_cons_succ, List.set_cons_zero, List.set_cons_succ, List.length_cons, List.length_nil, Nat.zero_add, Nat.reduceAdd, Nat.reduceLeDiff, Nat.reduceSub, Nat.reduceMul, if_true, if_false, Bool.false_eq_true, List.replicate_succ, List.replicate_zero, List.cons_append, List.nil_append, tgN, tgT, tgCons, tgNil, Int.reducePow, Int.reduceAdd, Int.reduceSub, Int.reduceMul, decide_true, decide_false, Bool.not_true, Bool.not_false, gChain_def, hIsa_int, hIsa_intb, hIsa_list, hIsa_tuple, gDrop_def, h0, c])).trans rfl)
/-! ### judged -/
theorem jd_t5 (n R : Dt) (ds : List Dt) : gTest (gOp hEq (gCB hLen (gCons (gVar 2) (gNil))) (gC (.int (5)))) [n, R, .tuple ds] = .ok ((ds.length : Int) == 5) := by
  simp only [bnd_ok, gVar_def, gC_def, gOp_def, gUn_def, gNil_def, gCons_def, gIf_def, gTest_def, gNot_def, gAnd_def, gOr_def, gAndV_def, gOrV_def, gNotV_def, gCB_def, asB_b, hAdd_i, hSub_i, hLt_i, hLe_i, hGt_i, hGe_i, hMul_r, hMul_l, hMod_i, hDiv_s, hBand_i, hShr_i, hPow_10_18, hPow_10_27, hPow_10_28, hPow_10_29, hPow_10_30, hEq_i, hNe_i, hLen_l, hLen_t, hMin2_i, hMax2_i, hMin3_i, hInt1_b, hInt1_i, hBits_i, hListOf_l, hListOf_t, hTupOf_l, hTupOf_t, gSeqS_def, gSet_def, gRet_def, gIfS_def, gNext_def, gTup_def, gLst_def, List.getElem?_cons_zero, List.getElem?_cons_succ, List.set_cons_zero, List.set_cons_succ, List.length_cons, List.length_nil, Nat.zero_add, Nat.reduceAdd, Nat.reduceLeDiff, Nat.reduceSub, Nat.reduceMul, if_true, if_false, Bool.false_eq_true, List.replicate_succ, List.replicate_zero, List.cons_append, List.nil_append, tgN, tgT, tgCons, tgNil, Int.reducePow, Int.reduceAdd, Int.reduceSub, Int.reduceMul, decide_true, decide_false, Bool.not_true, Bool.not_false, gChain_def, hIsa_int, hIsa_intb, hIsa_list, hIsa_tuple, gDrop_def]
theorem jd_t3 (n R : Dt) (ds : List Dt) : gTest (gOp hEq (gCB hLen (gCons (gVar 2) (gNil))) (gC (.int (3)))) [n, R, .tuple ds] = .ok ((ds.length : Int) == 3) := by
  simp only [bnd_ok, gVar_def, gC_def, gOp_def, gUn_def, gNil_def, gCons_def, gIf_def, gTest_def, gNot_def, gAnd_def, gOr_def, gAndV_def, gOrV_def, gNotV_def, gCB_def, asB_b, hAdd_i, hSub_i, hLt_i, hLe_i, hGt_i, hGe_i, hMul_r, hMul_l, hMod_i, hDiv_s, hBand_i, hShr_i, hPow_10_18, hPow_10_27, hPow_10_28, hPow_10_29, hPow_10_30, hEq_i, hNe_i, hLen_l, hLen_t, hMin2_i, hMax2_i, hMin3_i, hInt1_b, hInt1_i, hBits_i, hListOf_l, hListOf_t, hTupOf_l, hTupOf_t, gSeqS_def, gSet_def, gRet_def, gIfS_def, gNext_def, gTup_def, gLst_def, List.getElem?_cons_zero, List.getElem?_cons_succ, List.set_cons_zero, List.set_cons_succ, List.length_cons, List.length_nil, Nat.zero_add, Nat.reduceAdd, Nat.reduceLeDiff, Nat.reduceSub, Nat.reduceMul, if_true, if_false, Bool.false_eq_true, List.replicate_succ, List.replicate_zero, List.cons_append, List.nil_append, tgN, tgT, tgCons, tgNil, Int.reducePow, Int.reduceAdd, Int.reduceSub, Int.reduceMul, decide_true, decide_false, Bool.not_true, Bool.not_false, gChain_def, hIsa_int, hIsa_intb, hIsa_list, hIsa_tuple, gDrop_def]
theorem jd_no {n R : Dt} {ds : List Dt} (h5 : ds.length ≠ 5) (h3 : ds.length ≠ 3) : f_judged [n, R, .tuple ds] = .ex NP := by
  have t5 := jd_t5 n R ds
  have t3 := jd_t3 n R ds
  rw [beq_eq_false_iff_ne.mpr (by omega)] at t5 t3
  refine fnNX_ex ?_
  show g_judged [n, R, .tuple ds] = _
  unfold g_judged
  exact seq_step ((if_f t5).trans rfl) (seq_step ((if_f t3).trans rfl) rfl)
theorem jd_5ok {n R d : Dt} {ds : List Dt} (h : ds.length = 5) (k : f_judged_pair [n, R, .tuple ds] = .ok d) : f_judged [n, R, .tuple ds] = .ok d := by
  have t5 := jd_t5 n R ds
  rw [beq_iff_eq.mpr (by omega)] at t5
  refine fnNX_rt ?_
  show g_judged [n, R, .tuple ds] = _
  unfold g_judged
  exact seq_rt ((if_t t5).trans (ret_ok (callX_ok (ds := [n, R, .tuple ds]) rfl rfl k)))
theorem jd_5ex {n R : Dt} {ds : List Dt} (h : ds.length = 5) (k : f_judged_pair [n, R, .tuple ds] = .ex NP) : f_judged [n, R, .tuple ds] = .ex NP := by
  have t5 := jd_t5 n R ds
  rw [beq_iff_eq.mpr (by omega)] at t5
  refine fnNX_ex ?_
  show g_judged [n, R, .tuple ds] = _
  unfold g_judged
  exact seq_ex ((if_t t5).trans (ret_ex (callX_ex (ds := [n, R, .tuple ds]) rfl rfl k)))
theorem jd_3ok {n R d : Dt} {ds : List Dt} (h : ds.length = 3) (k : f_judged_out [R, .tuple ds] = .ok d) : f_judged [n, R, .tuple ds] = .ok d := by
  have t5 := jd_t5 n R ds
  have t3 := jd_t3 n R ds
  rw [beq_eq_false_iff_ne.mpr (by omega)] at t5
  rw [beq_iff_eq.mpr (by omega)] at t3
  refine fnNX_rt ?_
  show g_judged [n, R, .tuple ds] = _
  unfold g_judged
  exact seq_step ((if_f t5).trans rfl) (seq_rt ((if_t t3).trans (ret_ok (callX_ok (ds := [R, .tuple ds]) rfl rfl k))))
theorem jd_3ex {n R : Dt} {ds : List Dt} (h : ds.length = 3) (k : f_judged_out [R, .tuple ds] = .ex NP) : f_judged [n, R, .tuple ds] = .ex NP := by
  have t5 := jd_t5 n R ds
  have t3 := jd_t3 n R ds
  rw [beq_eq_false_iff_ne.mpr (by omega)] at t5
  rw [beq_iff_eq.mpr (by omega)] at t3
  refine fnNX_ex ?_
  show g_judged [n, R, .tuple ds] = _
  unfold g_judged
  exact seq_step ((if_f t5).trans rfl) (seq_ex ((if_t t3).trans (ret_ex (callX_ex (ds := [R, .tuple ds]) rfl rfl k))))
/-- the law's judged: what is told, or none where it is refused -/
theorem lj_ok {n R P d : Dt} (h : f_judged [n, R, P] = .ok d) : f_l_judged [n, R, P] = .ok d := by
  refine fnN_rt ?_
  show g_l_judged [n, R, P, .none, .none, .none] = _
  unfold g_l_judged
  refine seq_step (by rfl) (seq_step (by rfl) ?_)
  dsimp only [List.set]
  refine seq_step (try_ok (a := .nx [n, R, P, .none, d, .none]) (set_ok (callX_ok (ds := [n, R, P]) rfl rfl h))) ?_
  exact seq_rt ((if_t (by rfl)).trans (by rfl))
theorem lj_ex {n R P : Dt} (h : f_judged [n, R, P] = .ex NP) : f_l_judged [n, R, P] = .ok .none := by
  refine fnN_rt ?_
  show g_l_judged [n, R, P, .none, .none, .none] = _
  unfold g_l_judged
  refine seq_step (by rfl) (seq_step (by rfl) ?_)
  dsimp only [List.set]
  refine seq_step (try_ex (a := .nx [n, R, P, exnD "NoPaper" none, .none, exnD "NoPaper" none]) (set_ex (callX_ex (ds := [n, R, P]) rfl rfl h)) (by decide +kernel) (by rfl)) ?_
  kernel_rfl
end K58
end T_K58E

section T_K58F
set_option linter.all false
set_option maxRecDepth 100000
set_option maxHeartbeats 4000000
/-! K58F: what is due. -/
namespace K58
open PySem Sim FamA K59

def ldT : List Dt → O Bool := gOr (gNot (gTest (gChain hLe hLt (gC (.int (0))) (gVar 8) (gVar 0)))) (gOr (gNot (gTest (gChain hLe hLt (gC (.int (0))) (gVar 9) (gVar 0)))) (gOr (gTest (gOp hEq (gVar 8) (gVar 9))) (gTest (gOp hLt (gVar 10) (gC (.int (0)))))))
theorem ld_test (n a b t : Int) (R P d3 d4 d5 d6 w sh : Dt) : ldT [.int n, R, P, d3, d4, d5, d6, w, .int a, .int b, .int t, sh] = .ok (!pairB n a b t) := by
  unfold ldT pairB plB
  have c1 : gTest (gChain hLe hLt (gC (.int (0))) (gVar 8) (gVar 0)) [.int n, R, P, d3, d4, d5, d6, w, .int a, .int b, .int t, sh] = .ok (decide (0 ≤ a) && decide (a < n)) := by
    simp only [bnd_ok, gVar_def, gC_def, gOp_def, gUn_def, gNil_def, gCons_def, gIf_def, gTest_def, gNot_def, gAnd_def, gOr_def, gAndV_def, gOrV_def, gNotV_def, gCB_def, asB_b, hAdd_i, hSub_i, hLt_i, hLe_i, hGt_i, hGe_i, hMul_r, hMul_l, hMod_i, hDiv_s, hBand_i, hShr_i, hPow_10_18, hPow_10_27, hPow_10_28, hPow_10_29, hPow_10_30, hEq_i, hNe_i, hLen_l, hLen_t, hMin2_i, hMax2_i, hMin3_i, hInt1_b, hInt1_i, hBits_i, hListOf_l, hListOf_t, hTupOf_l, hTupOf_t, gSeqS_def, gSet_def, gRet_def, gIfS_def, gNext_def, gTup_def, gLst_def, List.getElem?_cons_zero, List.getElem?_cons_succ, List.set_cons_zero, List.set_cons_succ, List.length_cons, List.length_nil, Nat.zero_add, Nat.reduceAdd, Nat.reduceLeDiff, Nat.reduceSub, Nat.reduceMul, if_true, if_false, Bool.false_eq_true, List.replicate_succ, List.replicate_zero, List.cons_append, List.nil_append, tgN, tgT, tgCons, tgNil, Int.reducePow, Int.reduceAdd, Int.reduceSub, Int.reduceMul, decide_true, decide_false, Bool.not_true, Bool.not_false, gChain_def, hIsa_int, hIsa_intb, hIsa_list, hIsa_tuple, gDrop_def]
    cases decide (0 ≤ a) <;> rfl
  have c2 : gTest (gChain hLe hLt (gC (.int (0))) (gVar 9) (gVar 0)) [.int n, R, P, d3, d4, d5, d6, w, .int a, .int b, .int t, sh] = .ok (decide (0 ≤ b) && decide (b < n)) := by
    simp only [bnd_ok, gVar_def, gC_def, gOp_def, gUn_def, gNil_def, gCons_def, gIf_def, gTest_def, gNot_def, gAnd_def, gOr_def, gAndV_def, gOrV_def, gNotV_def, gCB_def, asB_b, hAdd_i, hSub_i, hLt_i, hLe_i, hGt_i, hGe_i, hMul_r, hMul_l, hMod_i, hDiv_s, hBand_i, hShr_i, hPow_10_18, hPow_10_27, hPow_10_28, hPow_10_29, hPow_10_30, hEq_i, hNe_i, hLen_l, hLen_t, hMin2_i, hMax2_i, hMin3_i, hInt1_b, hInt1_i, hBits_i, hListOf_l, hListOf_t, hTupOf_l, hTupOf_t, gSeqS_def, gSet_def, gRet_def, gIfS_def, gNext_def, gTup_def, gLst_def, List.getElem?_cons_zero, List.getElem?_cons_succ, List.set_cons_zero, List.set_cons_succ, List.length_cons, List.length_nil, Nat.zero_add, Nat.reduceAdd, Nat.reduceLeDiff, Nat.reduceSub, Nat.reduceMul, if_true, if_false, Bool.false_eq_true, List.replicate_succ, List.replicate_zero, List.cons_append, List.nil_append, tgN, tgT, tgCons, tgNil, Int.reducePow, Int.reduceAdd, Int.reduceSub, Int.reduceMul, decide_true, decide_false, Bool.not_true, Bool.not_false, gChain_def, hIsa_int, hIsa_intb, hIsa_list, hIsa_tuple, gDrop_def]
    cases decide (0 ≤ b) <;> rfl
  have c3 : gTest (gOp hEq (gVar 8) (gVar 9)) [.int n, R, P, d3, d4, d5, d6, w, .int a, .int b, .int t, sh] = .ok (a == b) := by simp only [bnd_ok, gVar_def, gC_def, gOp_def, gUn_def, gNil_def, gCons_def, gIf_def, gTest_def, gNot_def, gAnd_def, gOr_def, gAndV_def, gOrV_def, gNotV_def, gCB_def, asB_b, hAdd_i, hSub_i, hLt_i, hLe_i, hGt_i, hGe_i, hMul_r, hMul_l, hMod_i, hDiv_s, hBand_i, hShr_i, hPow_10_18, hPow_10_27, hPow_10_28, hPow_10_29, hPow_10_30, hEq_i, hNe_i, hLen_l, hLen_t, hMin2_i, hMax2_i, hMin3_i, hInt1_b, hInt1_i, hBits_i, hListOf_l, hListOf_t, hTupOf_l, hTupOf_t, gSeqS_def, gSet_def, gRet_def, gIfS_def, gNext_def, gTup_def, gLst_def, List.getElem?_cons_zero, List.getElem?_cons_succ, List.set_cons_zero, List.set_cons_succ, List.length_cons, List.length_nil, Nat.zero_add, Nat.reduceAdd, Nat.reduceLeDiff, Nat.reduceSub, Nat.reduceMul, if_true, if_false, Bool.false_eq_true, List.replicate_succ, List.replicate_zero, List.cons_append, List.nil_append, tgN, tgT, tgCons, tgNil, Int.reducePow, Int.reduceAdd, Int.reduceSub, Int.reduceMul, decide_true, decide_false, Bool.not_true, Bool.not_false, gChain_def, hIsa_int, hIsa_intb, hIsa_list, hIsa_tuple, gDrop_def]
  have c4 : gTest (gOp hLt (gVar 10) (gC (.int (0)))) [.int n, R, P, d3, d4, d5, d6, w, .int a, .int b, .int t, sh] = .ok (decide (t < 0)) := by simp only [bnd_ok, gVar_def, gC_def, gOp_def, gUn_def, gNil_def, gCons_def, gIf_def, gTest_def, gNot_def, gAnd_def, gOr_def, gAndV_def, gOrV_def, gNotV_def, gCB_def, asB_b, hAdd_i, hSub_i, hLt_i, hLe_i, hGt_i, hGe_i, hMul_r, hMul_l, hMod_i, hDiv_s, hBand_i, hShr_i, hPow_10_18, hPow_10_27, hPow_10_28, hPow_10_29, hPow_10_30, hEq_i, hNe_i, hLen_l, hLen_t, hMin2_i, hMax2_i, hMin3_i, hInt1_b, hInt1_i, hBits_i, hListOf_l, hListOf_t, hTupOf_l, hTupOf_t, gSeqS_def, gSet_def, gRet_def, gIfS_def, gNext_def, gTup_def, gLst_def, List.getElem?_cons_zero, List.getElem?_cons_succ, List.set_cons_zero, List.set_cons_succ, List.length_cons, List.length_nil, Nat.zero_add, Nat.reduceAdd, Nat.reduceLeDiff, Nat.reduceSub, Nat.reduceMul, if_true, if_false, Bool.false_eq_true, List.replicate_succ, List.replicate_zero, List.cons_append, List.nil_append, tgN, tgT, tgCons, tgNil, Int.reducePow, Int.reduceAdd, Int.reduceSub, Int.reduceMul, decide_true, decide_false, Bool.not_true, Bool.not_false, gChain_def, hIsa_int, hIsa_intb, hIsa_list, hIsa_tuple, gDrop_def]
  rw [gOr_def, gOr_def, gOr_def, gNot_def, gNot_def, c1, c2, c3, c4]
  cases (decide (0 ≤ a) && decide (a < n)) <;> cases (decide (0 ≤ b) && decide (b < n)) <;> cases (a == b) <;> cases decide (t < 0) <;> rfl
theorem ld_later {r : List T3} (hl : r.length ≤ 1000) (n P d3 d4 d5 d6 w a b sh : Dt) (t : Int) : gLc (gSeq (gVar 1)) (tgN 4) (gTest (gOp hGe (gOp hIx (gVar 4) (gC (.int (0)))) (gVar 10))) (gVar 4) [n, .list (r.map enc3), P, d3, d4, d5, d6, w, a, b, .int t, sh] = .ok (.list ((since t r).map enc3)) :=
  gLc_map enc3 (fun s => decide (t ≤ s.1)) enc3 (xs := r) rfl (by omega) (fun s _ => ⟨_, rfl, by simp only [bnd_ok, gVar_def, gC_def, gOp_def, gUn_def, gNil_def, gCons_def, gIf_def, gTest_def, gNot_def, gAnd_def, gOr_def, gAndV_def, gOrV_def, gNotV_def, gCB_def, asB_b, hAdd_i, hSub_i, hLt_i, hLe_i, hGt_i, hGe_i, hMul_r, hMul_l, hMod_i, hDiv_s, hBand_i, hShr_i, hPow_10_18, hPow_10_27, hPow_10_28, hPow_10_29, hPow_10_30, hEq_i, hNe_i, hLen_l, hLen_t, hMin2_i, hMax2_i, hMin3_i, hInt1_b, hInt1_i, hBits_i, hListOf_l, hListOf_t, hTupOf_l, hTupOf_t, gSeqS_def, gSet_def, gRet_def, gIfS_def, gNext_def, gTup_def, gLst_def, List.getElem?_cons_zero, List.getElem?_cons_succ, List.set_cons_zero, List.set_cons_succ, List.length_cons, List.length_nil, Nat.zero_add, Nat.reduceAdd, Nat.reduceLeDiff, Nat.reduceSub, Nat.reduceMul, if_true, if_false, Bool.false_eq_true, List.replicate_succ, List.replicate_zero, List.cons_append, List.nil_append, tgN, tgT, tgCons, tgNil, Int.reducePow, Int.reduceAdd, Int.reduceSub, Int.reduceMul, decide_true, decide_false, Bool.not_true, Bool.not_false, gChain_def, hIsa_int, hIsa_intb, hIsa_list, hIsa_tuple, gDrop_def, ix3_0], fun _ => rfl⟩)
theorem since_ord {r : List T3} (ho : r.Pairwise fun s t => s.1 < t.1) (t : Int) : (since t r).Pairwise fun s t => s.1 < t.1 := ho.filter _
theorem since_len (r : List T3) (t : Int) : (since t r).length ≤ r.length := List.length_filter_le _ _
/-- the law's choice between what is told and none -/
theorem pick_ok {w : Str} {z : Dt} {ρ : List Dt} {i : Nat} (h : gVar i ρ = .ok z) (c : Bool) (hz : hIs z .none = .ok (.bool c)) :
    gOp hIx (gLst (gCons (gTup (gCons (gC (.str w)) (gCons (gVar i) (gNil)))) (gCons (gC .none) (gNil)))) (gCB hInt1 (gCons (gOp hIs (gVar i) (gC .none)) (gNil))) ρ = .ok (if c then .none else .tuple [.str w, z]) := by
  rw [gOp_def, gLst_def, gCons_def, gTup_ok h, bnd_ok, gCons_def, gC_def, gNil_def]
  simp only [bnd_ok, gCB_def, gCons_def, gOp_def, h, gC_def, hz, gNil_def, List.length_cons, List.length_nil]
  rw [if_pos (by omega)]
  cases c <;> rfl
def due (w : Str) (v : Bool) (k : Nat) : Dt := if v then .tuple [.str w, .int k] else .none
theorem pick2 {w : Str} {ρ : List Dt} {i : Nat} {v : Bool} {k : Nat} (h : gVar i ρ = .ok (if v then .int k else .none)) :
    gOp hIx (gLst (gCons (gTup (gCons (gC (.str w)) (gCons (gVar i) (gNil)))) (gCons (gC .none) (gNil)))) (gCB hInt1 (gCons (gOp hIs (gVar i) (gC .none)) (gNil))) ρ = .ok (due w v k) := by
  cases v with
  | false => exact pick_ok h true rfl
  | true => exact pick_ok h false rfl
theorem due_ways {n a b t : Int} {r : List T3} {WS : List (List Int)} (ho : r.Pairwise fun s t => s.1 < t.1) (hl : r.length ≤ 60) (h1 : WS.length ≤ 1000) (h2 : WS.flatten.length < 64) :
    f_l_due [.int n, .list (r.map enc3), .tuple [.str "ways", .int a, .int b, .int t, .list (WS.map encI)]] = .ok (due "at least" (pairB n a b t && wayB (since t r) a b WS) WS.length) := by
  generalize hP : PyData.tuple [.str "ways", .int a, .int b, .int t, .list (WS.map encI)] = P
  have e0 : hIx P (.int 0) = .ok (.str "ways") := by rw [← hP]; rfl
  have e1 : hEq (.str "ways") (.str "out") = .ok (.bool false) := hEq_str sh_str.1 sh_str.2.2.1
  have e2 : hEq (.str "ways") (.str "ways") = .ok (.bool true) := hEq_str sh_str.1 sh_str.1
  refine fnN_rt ?_
  show g_l_due [.int n, .list (r.map enc3), P, .none, .none, .none, .none, .none, .none, .none, .none, .none] = _
  unfold g_l_due
  refine seq_step ((if_f (by simp only [bnd_ok, gVar_def, gC_def, gOp_def, gUn_def, gNil_def, gCons_def, gIf_def, gTest_def, gNot_def, gAnd_def, gOr_def, gAndV_def, gOrV_def, gNotV_def, gCB_def, asB_b, hAdd_i, hSub_i, hLt_i, hLe_i, hGt_i, hGe_i, hMul_r, hMul_l, hMod_i, hDiv_s, hBand_i, hShr_i, hPow_10_18, hPow_10_27, hPow_10_28, hPow_10_29, hPow_10_30, hEq_i, hNe_i, hLen_l, hLen_t, hMin2_i, hMax2_i, hMin3_i, hInt1_b, hInt1_i, hBits_i, hListOf_l, hListOf_t, hTupOf_l, hTupOf_t, gSeqS_def, gSet_def, gRet_def, gIfS_def, gNext_def, gTup_def, gLst_def, List.getElem?_cons_zero, List.getElem?_cons_succ, List.set_cons_zero, List.set_cons_succ, List.length_cons, List.length_nil, Nat.zero_add, Nat.reduceAdd, Nat.reduceLeDiff, Nat.reduceSub, Nat.reduceMul, if_true, if_false, Bool.false_eq_true, List.replicate_succ, List.replicate_zero, List.cons_append, List.nil_append, tgN, tgT, tgCons, tgNil, Int.reducePow, Int.reduceAdd, Int.reduceSub, Int.reduceMul, decide_true, decide_false, Bool.not_true, Bool.not_false, gChain_def, hIsa_int, hIsa_intb, hIsa_list, hIsa_tuple, gDrop_def, e0, e1])).trans rfl) ?_
  refine seq_step (asg_ok (d := P) (ρ' := [.int n, .list (r.map enc3), P, .none, .none, .none, .none, .str "ways", .int a, .int b, .int t, .list (WS.map encI)]) (by rfl) (by rw [← hP]; rfl)) ?_
  have ht := ld_test n a b t (.list (r.map enc3)) P .none .none .none .none (.str "ways") (.list (WS.map encI))
  cases hp : pairB n a b t with
  | false =>
    rw [hp] at ht
    exact seq_rt ((if_t ht).trans rfl)
  | true =>
    rw [hp] at ht
    refine seq_step ((if_f ht).trans rfl) ?_
    refine seq_step (set_ok (ld_later (by omega) _ _ _ _ _ _ _ _ _ _ t)) ?_
    dsimp only [List.set]
    have hw := wdue_ok (since_ord ho t) (Nat.le_trans (since_len r t) hl) a b h1 h2
    refine seq_rt ((if_t (by simp only [bnd_ok, gVar_def, gC_def, gOp_def, gUn_def, gNil_def, gCons_def, gIf_def, gTest_def, gNot_def, gAnd_def, gOr_def, gAndV_def, gOrV_def, gNotV_def, gCB_def, asB_b, hAdd_i, hSub_i, hLt_i, hLe_i, hGt_i, hGe_i, hMul_r, hMul_l, hMod_i, hDiv_s, hBand_i, hShr_i, hPow_10_18, hPow_10_27, hPow_10_28, hPow_10_29, hPow_10_30, hEq_i, hNe_i, hLen_l, hLen_t, hMin2_i, hMax2_i, hMin3_i, hInt1_b, hInt1_i, hBits_i, hListOf_l, hListOf_t, hTupOf_l, hTupOf_t, gSeqS_def, gSet_def, gRet_def, gIfS_def, gNext_def, gTup_def, gLst_def, List.getElem?_cons_zero, List.getElem?_cons_succ, List.set_cons_zero, List.set_cons_succ, List.length_cons, List.length_nil, Nat.zero_add, Nat.reduceAdd, Nat.reduceLeDiff, Nat.reduceSub, Nat.reduceMul, if_true, if_false, Bool.false_eq_true, List.replicate_succ, List.replicate_zero, List.cons_append, List.nil_append, tgN, tgT, tgCons, tgNil, Int.reducePow, Int.reduceAdd, Int.reduceSub, Int.reduceMul, decide_true, decide_false, Bool.not_true, Bool.not_false, gChain_def, hIsa_int, hIsa_intb, hIsa_list, hIsa_tuple, gDrop_def, e2])).trans ?_)
    refine seq_step (set_ok (callN_ok (ds := [.list ((since t r).map enc3), .int a, .int b, .list (WS.map encI)]) rfl rfl hw)) ?_
    dsimp only [List.set]
    exact ret_ok (pick2 rfl)
theorem setU_ok (S : List Int) (h : S.length < 64) : hSortSetU (.tuple (S.map .int)) = .ok (.list ((iset S).map .int)) := by
  unfold hSortSetU
  simp only [allI_map]
  rw [if_pos h]
theorem hIx_lastT {S : List Int} (z : Int) : hIx (.tuple ((S ++ [z]).map .int)) (.int (-1)) = .ok (.int z) := by
  rw [List.map_append]
  have e : (-1 : Int) = -((0 : Nat) : Int) - 1 := rfl
  refine hIx_t ?_
  unfold L2.atI
  have h : L2.ixN ((S.map PyData.int ++ [z].map PyData.int)).length (-1) = some S.length := by
    unfold L2.ixN
    rw [List.length_append, List.length_map, List.length_map, List.length_singleton]
    simp
    omega
  rw [h]
  simp
theorem nodup_lt {xs : List Int} (h : xs.Pairwise (· ≤ ·)) (hn : xs.Nodup) : xs.Pairwise (· < ·) := by
  have := h.and hn
  exact this.imp fun h => by have := h.1; have := h.2; omega
theorem iset_iff (S : List Int) : S = iset S ↔ S.Pairwise (· < ·) := by
  constructor
  · intro h
    rw [h]
    exact nodup_lt (isort_sorted _) ((isort_perm _).nodup_iff.mpr (nodup_dd S))
  · intro h
    exact iset_of h fun _ => Iff.rfl
theorem due_side {n a b t : Int} {r : List T3} {S : List Int} (hl : r.length ≤ 1000) (hS : S.length < 64) :
    f_l_due [.int n, .list (r.map enc3), .tuple [.str "side", .int a, .int b, .int t, .tuple (S.map .int)]] = .ok (due "at most" (pairB n a b t && sideB n a b S) ((since t r).filter (rimC S)).length) := by
  generalize hP : PyData.tuple [.str "side", .int a, .int b, .int t, .tuple (S.map .int)] = P
  have e0 : hIx P (.int 0) = .ok (.str "side") := by rw [← hP]; rfl
  have e1 : hEq (.str "side") (.str "out") = .ok (.bool false) := hEq_str sh_str.2.1 sh_str.2.2.1
  have e2 : hEq (.str "side") (.str "ways") = .ok (.bool false) := hEq_str sh_str.2.1 sh_str.1
  refine fnN_rt ?_
  show g_l_due [.int n, .list (r.map enc3), P, .none, .none, .none, .none, .none, .none, .none, .none, .none] = _
  unfold g_l_due
  refine seq_step ((if_f (by simp only [bnd_ok, gVar_def, gC_def, gOp_def, gUn_def, gNil_def, gCons_def, gIf_def, gTest_def, gNot_def, gAnd_def, gOr_def, gAndV_def, gOrV_def, gNotV_def, gCB_def, asB_b, hAdd_i, hSub_i, hLt_i, hLe_i, hGt_i, hGe_i, hMul_r, hMul_l, hMod_i, hDiv_s, hBand_i, hShr_i, hPow_10_18, hPow_10_27, hPow_10_28, hPow_10_29, hPow_10_30, hEq_i, hNe_i, hLen_l, hLen_t, hMin2_i, hMax2_i, hMin3_i, hInt1_b, hInt1_i, hBits_i, hListOf_l, hListOf_t, hTupOf_l, hTupOf_t, gSeqS_def, gSet_def, gRet_def, gIfS_def, gNext_def, gTup_def, gLst_def, List.getElem?_cons_zero, List.getElem?_cons_succ, List.set_cons_zero, List.set_cons_succ, List.length_cons, List.length_nil, Nat.zero_add, Nat.reduceAdd, Nat.reduceLeDiff, Nat.reduceSub, Nat.reduceMul, if_true, if_false, Bool.false_eq_true, List.replicate_succ, List.replicate_zero, List.cons_append, List.nil_append, tgN, tgT, tgCons, tgNil, Int.reducePow, Int.reduceAdd, Int.reduceSub, Int.reduceMul, decide_true, decide_false, Bool.not_true, Bool.not_false, gChain_def, hIsa_int, hIsa_intb, hIsa_list, hIsa_tuple, gDrop_def, e0, e1])).trans rfl) ?_
  refine seq_step (asg_ok (d := P) (ρ' := [.int n, .list (r.map enc3), P, .none, .none, .none, .none, .str "side", .int a, .int b, .int t, .tuple (S.map .int)]) (by rfl) (by rw [← hP]; rfl)) ?_
  have ht := ld_test n a b t (.list (r.map enc3)) P .none .none .none .none (.str "side") (.tuple (S.map .int))
  cases hp : pairB n a b t with
  | false =>
    rw [hp] at ht
    exact seq_rt ((if_t ht).trans rfl)
  | true =>
    rw [hp] at ht
    refine seq_step ((if_f ht).trans rfl) ?_
    refine seq_step (set_ok (ld_later hl _ _ _ _ _ _ _ _ _ _ t)) ?_
    dsimp only [List.set]
    refine seq_step ((if_f (by simp only [bnd_ok, gVar_def, gC_def, gOp_def, gUn_def, gNil_def, gCons_def, gIf_def, gTest_def, gNot_def, gAnd_def, gOr_def, gAndV_def, gOrV_def, gNotV_def, gCB_def, asB_b, hAdd_i, hSub_i, hLt_i, hLe_i, hGt_i, hGe_i, hMul_r, hMul_l, hMod_i, hDiv_s, hBand_i, hShr_i, hPow_10_18, hPow_10_27, hPow_10_28, hPow_10_29, hPow_10_30, hEq_i, hNe_i, hLen_l, hLen_t, hMin2_i, hMax2_i, hMin3_i, hInt1_b, hInt1_i, hBits_i, hListOf_l, hListOf_t, hTupOf_l, hTupOf_t, gSeqS_def, gSet_def, gRet_def, gIfS_def, gNext_def, gTup_def, gLst_def, List.getElem?_cons_zero, List.getElem?_cons_succ, List.set_cons_zero, List.set_cons_succ, List.length_cons, List.length_nil, Nat.zero_add, Nat.reduceAdd, Nat.reduceLeDiff, Nat.reduceSub, Nat.reduceMul, if_true, if_false, Bool.false_eq_true, List.replicate_succ, List.replicate_zero, List.cons_append, List.nil_append, tgN, tgT, tgCons, tgNil, Int.reducePow, Int.reduceAdd, Int.reduceSub, Int.reduceMul, decide_true, decide_false, Bool.not_true, Bool.not_false, gChain_def, hIsa_int, hIsa_intb, hIsa_list, hIsa_tuple, gDrop_def, e2])).trans rfl) ?_
    have s1 : gTest (gOp hNe (gCB (one hListOf) (gCons (gVar 11) gNil)) (gUn hSortSetU (gVar 11))) [.int n, .list (r.map enc3), P, .none, .none, .list ((since t r).map enc3), .none, .str "side", .int a, .int b, .int t, .tuple (S.map .int)] = .ok (!decide (S = iset S)) := by
      have hs := setU_ok S hS
      have hn := hNe_ints S (iset S)
      simp only [bnd_ok, gVar_def, gC_def, gOp_def, gUn_def, gNil_def, gCons_def, gIf_def, gTest_def, gNot_def, gAnd_def, gOr_def, gAndV_def, gOrV_def, gNotV_def, gCB_def, asB_b, hAdd_i, hSub_i, hLt_i, hLe_i, hGt_i, hGe_i, hMul_r, hMul_l, hMod_i, hDiv_s, hBand_i, hShr_i, hPow_10_18, hPow_10_27, hPow_10_28, hPow_10_29, hPow_10_30, hEq_i, hNe_i, hLen_l, hLen_t, hMin2_i, hMax2_i, hMin3_i, hInt1_b, hInt1_i, hBits_i, hListOf_l, hListOf_t, hTupOf_l, hTupOf_t, gSeqS_def, gSet_def, gRet_def, gIfS_def, gNext_def, gTup_def, gLst_def, List.getElem?_cons_zero, List.getElem?_cons_succ, List.set_cons_zero, List.set_cons_succ, List.length_cons, List.length_nil, Nat.zero_add, Nat.reduceAdd, Nat.reduceLeDiff, Nat.reduceSub, Nat.reduceMul, if_true, if_false, Bool.false_eq_true, List.replicate_succ, List.replicate_zero, List.cons_append, List.nil_append, tgN, tgT, tgCons, tgNil, Int.reducePow, Int.reduceAdd, Int.reduceSub, Int.reduceMul, decide_true, decide_false, Bool.not_true, Bool.not_false, gChain_def, hIsa_int, hIsa_intb, hIsa_list, hIsa_tuple, gDrop_def, hs, hn]
    have s2 : gTest (gOp hNotIn (gVar 8) (gVar 11)) [.int n, .list (r.map enc3), P, .none, .none, .list ((since t r).map enc3), .none, .str "side", .int a, .int b, .int t, .tuple (S.map .int)] = .ok (!decide (a ∈ S)) := by
      simp only [bnd_ok, gVar_def, gC_def, gOp_def, gUn_def, gNil_def, gCons_def, gIf_def, gTest_def, gNot_def, gAnd_def, gOr_def, gAndV_def, gOrV_def, gNotV_def, gCB_def, asB_b, hAdd_i, hSub_i, hLt_i, hLe_i, hGt_i, hGe_i, hMul_r, hMul_l, hMod_i, hDiv_s, hBand_i, hShr_i, hPow_10_18, hPow_10_27, hPow_10_28, hPow_10_29, hPow_10_30, hEq_i, hNe_i, hLen_l, hLen_t, hMin2_i, hMax2_i, hMin3_i, hInt1_b, hInt1_i, hBits_i, hListOf_l, hListOf_t, hTupOf_l, hTupOf_t, gSeqS_def, gSet_def, gRet_def, gIfS_def, gNext_def, gTup_def, gLst_def, List.getElem?_cons_zero, List.getElem?_cons_succ, List.set_cons_zero, List.set_cons_succ, List.length_cons, List.length_nil, Nat.zero_add, Nat.reduceAdd, Nat.reduceLeDiff, Nat.reduceSub, Nat.reduceMul, if_true, if_false, Bool.false_eq_true, List.replicate_succ, List.replicate_zero, List.cons_append, List.nil_append, tgN, tgT, tgCons, tgNil, Int.reducePow, Int.reduceAdd, Int.reduceSub, Int.reduceMul, decide_true, decide_false, Bool.not_true, Bool.not_false, gChain_def, hIsa_int, hIsa_intb, hIsa_list, hIsa_tuple, gDrop_def, hNotIn_intsT]
    have s3 : gTest (gOp hIn (gVar 9) (gVar 11)) [.int n, .list (r.map enc3), P, .none, .none, .list ((since t r).map enc3), .none, .str "side", .int a, .int b, .int t, .tuple (S.map .int)] = .ok (decide (b ∈ S)) := by
      simp only [bnd_ok, gVar_def, gC_def, gOp_def, gUn_def, gNil_def, gCons_def, gIf_def, gTest_def, gNot_def, gAnd_def, gOr_def, gAndV_def, gOrV_def, gNotV_def, gCB_def, asB_b, hAdd_i, hSub_i, hLt_i, hLe_i, hGt_i, hGe_i, hMul_r, hMul_l, hMod_i, hDiv_s, hBand_i, hShr_i, hPow_10_18, hPow_10_27, hPow_10_28, hPow_10_29, hPow_10_30, hEq_i, hNe_i, hLen_l, hLen_t, hMin2_i, hMax2_i, hMin3_i, hInt1_b, hInt1_i, hBits_i, hListOf_l, hListOf_t, hTupOf_l, hTupOf_t, gSeqS_def, gSet_def, gRet_def, gIfS_def, gNext_def, gTup_def, gLst_def, List.getElem?_cons_zero, List.getElem?_cons_succ, List.set_cons_zero, List.set_cons_succ, List.length_cons, List.length_nil, Nat.zero_add, Nat.reduceAdd, Nat.reduceLeDiff, Nat.reduceSub, Nat.reduceMul, if_true, if_false, Bool.false_eq_true, List.replicate_succ, List.replicate_zero, List.cons_append, List.nil_append, tgN, tgT, tgCons, tgNil, Int.reducePow, Int.reduceAdd, Int.reduceSub, Int.reduceMul, decide_true, decide_false, Bool.not_true, Bool.not_false, gChain_def, hIsa_int, hIsa_intb, hIsa_list, hIsa_tuple, gDrop_def, hIn_intsT]
    by_cases c1 : S = iset S
    case neg =>
      rw [decide_eq_false c1] at s1
      have : adjB S = false := by
        cases h : adjB S
        · rfl
        · exact absurd ((iset_iff S).mpr ((adj_iff S).mp h)) c1
      unfold sideB
      rw [this, Bool.and_false, Bool.false_and]
      exact seq_rt ((if_t (by rw [gOr_def, s1]; rfl)).trans rfl)
    rw [decide_eq_true c1] at s1
    have hadj := (iset_iff S).mp c1
    have hadjB := (adj_iff S).mpr hadj
    by_cases c2 : a ∈ S
    case neg =>
      rw [decide_eq_false c2] at s2
      unfold sideB
      rw [decide_eq_false c2, Bool.false_and, Bool.and_false]
      exact seq_rt ((if_t (by rw [gOr_def, s1, gOr_def, s2]; rfl)).trans rfl)
    rw [decide_eq_true c2] at s2
    by_cases c3 : b ∈ S
    case pos =>
      rw [decide_eq_true c3] at s3
      unfold sideB
      rw [decide_eq_true c3, Bool.not_true, Bool.and_false, Bool.and_false]
      exact seq_rt ((if_t (by rw [gOr_def, s1, gOr_def, s2, s3]; rfl)).trans rfl)
    rw [decide_eq_false c3] at s3
    refine seq_step ((if_f (by rw [gOr_def, s1, gOr_def, s2, s3]; rfl)).trans rfl) ?_
    have hsB : sideB n a b S = inB n S := by
      unfold sideB
      rw [hadjB, decide_eq_true c2, decide_eq_false c3, Bool.and_true, Bool.not_false, Bool.and_true, Bool.and_true]
    rw [hsB]
    obtain ⟨x, S', hx⟩ : ∃ x S', S = x :: S' := by
      cases S with
      | nil => nomatch c2
      | cons x S' => exact ⟨x, S', rfl⟩
    obtain ⟨y, S'', hy⟩ : ∃ y S'', S = S'' ++ [y] := ⟨S.getLast (by rw [hx]; exact List.cons_ne_nil _ _), S.dropLast, (List.dropLast_concat_getLast _).symm⟩
    have hi0 : hIx (.tuple (S.map .int)) (.int 0) = .ok (.int x) := by
      rw [hx, List.map_cons]
      refine hIx_t ?_
      unfold L2.atI L2.ixN
      simp
    have hi1 : hIx (.tuple (S.map .int)) (.int (-1)) = .ok (.int y) := by rw [hy]; exact hIx_lastT y
    have hin : inB n S = (!decide (x < 0) && !decide (n ≤ y)) := by
      have : (inB n S = true) ↔ (0 ≤ x ∧ y < n) := by
        unfold inB
        rw [List.all_eq_true]
        constructor
        · intro h
          have hxx := h x (by rw [hx]; exact List.mem_cons_self)
          have hyy := h y (by rw [hy]; exact List.mem_append_right _ List.mem_cons_self)
          rw [Bool.and_eq_true, decide_eq_true_eq, decide_eq_true_eq] at hxx hyy
          exact ⟨hxx.1, hyy.2⟩
        · intro ⟨h0, hn⟩ p hp
          rw [Bool.and_eq_true, decide_eq_true_eq, decide_eq_true_eq]
          refine ⟨?_, ?_⟩
          · rw [hx] at hp hadj
            rcases List.mem_cons.mp hp with rfl | hp
            · exact h0
            · have := (List.pairwise_cons.mp hadj).1 p hp
              omega
          · rw [hy] at hp hadj
            rcases List.mem_append.mp hp with hp | hp
            · have := (List.pairwise_append.mp hadj).2.2 p hp y List.mem_cons_self
              omega
            · rw [List.mem_singleton.mp hp]; exact hn
      by_cases c : 0 ≤ x ∧ y < n
      · rw [this.mpr c, decide_eq_false (by omega), decide_eq_false (by omega)]
        rfl
      · have h0 : inB n S = false := by
          cases h : inB n S
          · rfl
          · exact absurd (this.mp h) c
        rw [h0]
        by_cases c' : x < 0
        · rw [decide_eq_true c']; rfl
        · rw [decide_eq_true (by omega : n ≤ y), Bool.not_true, Bool.and_false]
    have t1 : gTest (gOp hLt (gOp hIx (gVar 11) (gC (.int (0)))) (gC (.int (0)))) [.int n, .list (r.map enc3), P, .none, .none, .list ((since t r).map enc3), .none, .str "side", .int a, .int b, .int t, .tuple (S.map .int)] = .ok (decide (x < 0)) := by
      simp only [bnd_ok, gVar_def, gC_def, gOp_def, gUn_def, gNil_def, gCons_def, gIf_def, gTest_def, gNot_def, gAnd_def, gOr_def, gAndV_def, gOrV_def, gNotV_def, gCB_def, asB_b, hAdd_i, hSub_i, hLt_i, hLe_i, hGt_i, hGe_i, hMul_r, hMul_l, hMod_i, hDiv_s, hBand_i, hShr_i, hPow_10_18, hPow_10_27, hPow_10_28, hPow_10_29, hPow_10_30, hEq_i, hNe_i, hLen_l, hLen_t, hMin2_i, hMax2_i, hMin3_i, hInt1_b, hInt1_i, hBits_i, hListOf_l, hListOf_t, hTupOf_l, hTupOf_t, gSeqS_def, gSet_def, gRet_def, gIfS_def, gNext_def, gTup_def, gLst_def, List.getElem?_cons_zero, List.getElem?_cons_succ, List.set_cons_zero, List.set_cons_succ, List.length_cons, List.length_nil, Nat.zero_add, Nat.reduceAdd, Nat.reduceLeDiff, Nat.reduceSub, Nat.reduceMul, if_true, if_false, Bool.false_eq_true, List.replicate_succ, List.replicate_zero, List.cons_append, List.nil_append, tgN, tgT, tgCons, tgNil, Int.reducePow, Int.reduceAdd, Int.reduceSub, Int.reduceMul, decide_true, decide_false, Bool.not_true, Bool.not_false, gChain_def, hIsa_int, hIsa_intb, hIsa_list, hIsa_tuple, gDrop_def, hi0]
    have t2 : gTest (gOp hGe (gOp hIx (gVar 11) (gUn (hU fun i => -i) (gC (.int (1))))) (gVar 0)) [.int n, .list (r.map enc3), P, .none, .none, .list ((since t r).map enc3), .none, .str "side", .int a, .int b, .int t, .tuple (S.map .int)] = .ok (decide (n ≤ y)) := by
      have hu : hU (fun i => -i) (.int 1) = .ok (.int (-1)) := rfl
      simp only [bnd_ok, gVar_def, gC_def, gOp_def, gUn_def, gNil_def, gCons_def, gIf_def, gTest_def, gNot_def, gAnd_def, gOr_def, gAndV_def, gOrV_def, gNotV_def, gCB_def, asB_b, hAdd_i, hSub_i, hLt_i, hLe_i, hGt_i, hGe_i, hMul_r, hMul_l, hMod_i, hDiv_s, hBand_i, hShr_i, hPow_10_18, hPow_10_27, hPow_10_28, hPow_10_29, hPow_10_30, hEq_i, hNe_i, hLen_l, hLen_t, hMin2_i, hMax2_i, hMin3_i, hInt1_b, hInt1_i, hBits_i, hListOf_l, hListOf_t, hTupOf_l, hTupOf_t, gSeqS_def, gSet_def, gRet_def, gIfS_def, gNext_def, gTup_def, gLst_def, List.getElem?_cons_zero, List.getElem?_cons_succ, List.set_cons_zero, List.set_cons_succ, List.length_cons, List.length_nil, Nat.zero_add, Nat.reduceAdd, Nat.reduceLeDiff, Nat.reduceSub, Nat.reduceMul, if_true, if_false, Bool.false_eq_true, List.replicate_succ, List.replicate_zero, List.cons_append, List.nil_append, tgN, tgT, tgCons, tgNil, Int.reducePow, Int.reduceAdd, Int.reduceSub, Int.reduceMul, decide_true, decide_false, Bool.not_true, Bool.not_false, gChain_def, hIsa_int, hIsa_intb, hIsa_list, hIsa_tuple, gDrop_def, hu, hi1]
    have tt : gOr (gTest (gOp hLt (gOp hIx (gVar 11) (gC (.int (0)))) (gC (.int (0))))) (gTest (gOp hGe (gOp hIx (gVar 11) (gUn (hU fun i => -i) (gC (.int (1))))) (gVar 0))) [.int n, .list (r.map enc3), P, .none, .none, .list ((since t r).map enc3), .none, .str "side", .int a, .int b, .int t, .tuple (S.map .int)] = .ok (!inB n S) := by
      rw [gOr_def, t1, t2, hin]
      cases decide (x < 0) <;> cases decide (n ≤ y) <;> rfl
    cases hb : inB n S with
    | false =>
      rw [hb] at tt
      exact seq_rt ((if_t tt).trans rfl)
    | true =>
      rw [hb] at tt
      refine seq_step ((if_f tt).trans rfl) ?_
      have hlc := gLc_map enc3 (rimC S) enc3 (gi := gSeq (gVar 5)) (h := tgN 4) (gt := gTest (gOp hNe (gOp hIn (gOp hIx (gVar 4) (gC (.int (1)))) (gVar 11)) (gOp hIn (gOp hIx (gVar 4) (gC (.int (2)))) (gVar 11)))) (ge := gVar 4)
        (ρ := [.int n, .list (r.map enc3), P, .none, .none, .list ((since t r).map enc3), .none, .str "side", .int a, .int b, .int t, .tuple (S.map .int)]) (xs := since t r) rfl (by have := since_len r t; omega) (fun s _ => ⟨_, rfl, by
          simp only [bnd_ok, gVar_def, gC_def, gOp_def, gUn_def, gNil_def, gCons_def, gIf_def, gTest_def, gNot_def, gAnd_def, gOr_def, gAndV_def, gOrV_def, gNotV_def, gCB_def, asB_b, hAdd_i, hSub_i, hLt_i, hLe_i, hGt_i, hGe_i, hMul_r, hMul_l, hMod_i, hDiv_s, hBand_i, hShr_i, hPow_10_18, hPow_10_27, hPow_10_28, hPow_10_29, hPow_10_30, hEq_i, hNe_i, hLen_l, hLen_t, hMin2_i, hMax2_i, hMin3_i, hInt1_b, hInt1_i, hBits_i, hListOf_l, hListOf_t, hTupOf_l, hTupOf_t, gSeqS_def, gSet_def, gRet_def, gIfS_def, gNext_def, gTup_def, gLst_def, List.getElem?_cons_zero, List.getElem?_cons_succ, List.set_cons_zero, List.set_cons_succ, List.length_cons, List.length_nil, Nat.zero_add, Nat.reduceAdd, Nat.reduceLeDiff, Nat.reduceSub, Nat.reduceMul, if_true, if_false, Bool.false_eq_true, List.replicate_succ, List.replicate_zero, List.cons_append, List.nil_append, tgN, tgT, tgCons, tgNil, Int.reducePow, Int.reduceAdd, Int.reduceSub, Int.reduceMul, decide_true, decide_false, Bool.not_true, Bool.not_false, gChain_def, hIsa_int, hIsa_intb, hIsa_list, hIsa_tuple, gDrop_def, ix3_1, ix3_2, hIn_intsT, hNe_b]
          rfl, fun _ => rfl⟩)
      refine ret_ok (gTup_ok ?_)
      rw [gCB_def, gCons_def, hlc]
      simp only [bnd_ok, gNil_def, hLen_l, List.length_map]
theorem since_gt (r : List T3) (m : Int) : r.filter (fun s => decide (m < s.1)) = since (m + 1) r := by
  unfold since
  congr 1
theorem due_out {n m : Int} {r : List T3} {WS : List (List Int)} (ho : r.Pairwise fun s t => s.1 < t.1) (hl : r.length ≤ 60) (h1 : WS.length ≤ 1000) (h2 : WS.flatten.length < 64) :
    f_l_due [.int n, .list (r.map enc3), .tuple [.str "out", .int m, .list (WS.map encI)]] = .ok (match outAt r m with
      | some t => due "out" (wayB (since (m + 1) r) t.2.1 t.2.2 WS) WS.length
      | none => .none) := by
  generalize hP : PyData.tuple [.str "out", .int m, .list (WS.map encI)] = P
  have e0 : hIx P (.int 0) = .ok (.str "out") := by rw [← hP]; rfl
  have e1 : hIx P (.int 1) = .ok (.int m) := by rw [← hP]; rfl
  have e2 : hIx P (.int 2) = .ok (.list (WS.map encI)) := by rw [← hP]; rfl
  have eq1 : hEq (.str "out") (.str "out") = .ok (.bool true) := hEq_str sh_str.2.2.1 sh_str.2.2.1
  refine fnN_rt ?_
  show g_l_due [.int n, .list (r.map enc3), P, .none, .none, .none, .none, .none, .none, .none, .none, .none] = _
  unfold g_l_due
  refine seq_rt ((if_t (by simp only [bnd_ok, gVar_def, gC_def, gOp_def, gUn_def, gNil_def, gCons_def, gIf_def, gTest_def, gNot_def, gAnd_def, gOr_def, gAndV_def, gOrV_def, gNotV_def, gCB_def, asB_b, hAdd_i, hSub_i, hLt_i, hLe_i, hGt_i, hGe_i, hMul_r, hMul_l, hMod_i, hDiv_s, hBand_i, hShr_i, hPow_10_18, hPow_10_27, hPow_10_28, hPow_10_29, hPow_10_30, hEq_i, hNe_i, hLen_l, hLen_t, hMin2_i, hMax2_i, hMin3_i, hInt1_b, hInt1_i, hBits_i, hListOf_l, hListOf_t, hTupOf_l, hTupOf_t, gSeqS_def, gSet_def, gRet_def, gIfS_def, gNext_def, gTup_def, gLst_def, List.getElem?_cons_zero, List.getElem?_cons_succ, List.set_cons_zero, List.set_cons_succ, List.length_cons, List.length_nil, Nat.zero_add, Nat.reduceAdd, Nat.reduceLeDiff, Nat.reduceSub, Nat.reduceMul, if_true, if_false, Bool.false_eq_true, List.replicate_succ, List.replicate_zero, List.cons_append, List.nil_append, tgN, tgT, tgCons, tgNil, Int.reducePow, Int.reduceAdd, Int.reduceSub, Int.reduceMul, decide_true, decide_false, Bool.not_true, Bool.not_false, gChain_def, hIsa_int, hIsa_intb, hIsa_list, hIsa_tuple, gDrop_def, e0, eq1])).trans ?_)
  have lc1 := gLc_map enc3 (fun t => t.1 == m && ne3 t) enc3 (gi := gSeq (gVar 1)) (h := tgN 4) (gt := gAnd (gTest (gOp hEq (gOp hIx (gVar 4) (gC (.int (0)))) (gOp hIx (gVar 2) (gC (.int (1)))))) (gTest (gOp hNe (gOp hIx (gVar 4) (gC (.int (1)))) (gOp hIx (gVar 4) (gC (.int (2))))))) (ge := gVar 4)
    (ρ := [.int n, .list (r.map enc3), P, .none, .none, .none, .none, .none, .none, .none, .none, .none]) (xs := r) rfl (by omega) (fun s _ => ⟨_, rfl, by
      have q1 : gTest (gOp hEq (gOp hIx (gVar 4) (gC (.int (0)))) (gOp hIx (gVar 2) (gC (.int (1))))) ([.int n, .list (r.map enc3), P, .none, .none, .none, .none, .none, .none, .none, .none, .none].set 4 (enc3 s)) = .ok (s.1 == m) := by simp only [bnd_ok, gVar_def, gC_def, gOp_def, gUn_def, gNil_def, gCons_def, gIf_def, gTest_def, gNot_def, gAnd_def, gOr_def, gAndV_def, gOrV_def, gNotV_def, gCB_def, asB_b, hAdd_i, hSub_i, hLt_i, hLe_i, hGt_i, hGe_i, hMul_r, hMul_l, hMod_i, hDiv_s, hBand_i, hShr_i, hPow_10_18, hPow_10_27, hPow_10_28, hPow_10_29, hPow_10_30, hEq_i, hNe_i, hLen_l, hLen_t, hMin2_i, hMax2_i, hMin3_i, hInt1_b, hInt1_i, hBits_i, hListOf_l, hListOf_t, hTupOf_l, hTupOf_t, gSeqS_def, gSet_def, gRet_def, gIfS_def, gNext_def, gTup_def, gLst_def, List.getElem?_cons_zero, List.getElem?_cons_succ, List.set_cons_zero, List.set_cons_succ, List.length_cons, List.length_nil, Nat.zero_add, Nat.reduceAdd, Nat.reduceLeDiff, Nat.reduceSub, Nat.reduceMul, if_true, if_false, Bool.false_eq_true, List.replicate_succ, List.replicate_zero, List.cons_append, List.nil_append, tgN, tgT, tgCons, tgNil, Int.reducePow, Int.reduceAdd, Int.reduceSub, Int.reduceMul, decide_true, decide_false, Bool.not_true, Bool.not_false, gChain_def, hIsa_int, hIsa_intb, hIsa_list, hIsa_tuple, gDrop_def, ix3_0, e1]
      have q2 : gTest (gOp hNe (gOp hIx (gVar 4) (gC (.int (1)))) (gOp hIx (gVar 4) (gC (.int (2))))) ([.int n, .list (r.map enc3), P, .none, .none, .none, .none, .none, .none, .none, .none, .none].set 4 (enc3 s)) = .ok (ne3 s) := by
        simp only [bnd_ok, gVar_def, gC_def, gOp_def, gUn_def, gNil_def, gCons_def, gIf_def, gTest_def, gNot_def, gAnd_def, gOr_def, gAndV_def, gOrV_def, gNotV_def, gCB_def, asB_b, hAdd_i, hSub_i, hLt_i, hLe_i, hGt_i, hGe_i, hMul_r, hMul_l, hMod_i, hDiv_s, hBand_i, hShr_i, hPow_10_18, hPow_10_27, hPow_10_28, hPow_10_29, hPow_10_30, hEq_i, hNe_i, hLen_l, hLen_t, hMin2_i, hMax2_i, hMin3_i, hInt1_b, hInt1_i, hBits_i, hListOf_l, hListOf_t, hTupOf_l, hTupOf_t, gSeqS_def, gSet_def, gRet_def, gIfS_def, gNext_def, gTup_def, gLst_def, List.getElem?_cons_zero, List.getElem?_cons_succ, List.set_cons_zero, List.set_cons_succ, List.length_cons, List.length_nil, Nat.zero_add, Nat.reduceAdd, Nat.reduceLeDiff, Nat.reduceSub, Nat.reduceMul, if_true, if_false, Bool.false_eq_true, List.replicate_succ, List.replicate_zero, List.cons_append, List.nil_append, tgN, tgT, tgCons, tgNil, Int.reducePow, Int.reduceAdd, Int.reduceSub, Int.reduceMul, decide_true, decide_false, Bool.not_true, Bool.not_false, gChain_def, hIsa_int, hIsa_intb, hIsa_list, hIsa_tuple, gDrop_def, ix3_1, ix3_2]
        rfl
      rw [gAnd_def, q1, bnd_ok, q2]
      cases (s.1 == m) <;> rfl, fun _ => rfl⟩)
  have hfd : outAt r m = (r.filter fun t => t.1 == m && ne3 t).head? := by
    unfold outAt
    rw [List.head?_filter]
  rw [hfd]
  refine seq_step (set_ok lc1) ?_
  dsimp only [List.set]
  generalize (r.filter fun t => t.1 == m && ne3 t) = E at *
  have tn : gTest (gOp hEq (gVar 3) (gLst (gNil))) [.int n, .list (r.map enc3), P, .list (E.map enc3), .none, .none, .none, .none, .none, .none, .none, .none] = .ok E.isEmpty := by
    rw [gTest_def, gOp_def, gLst_nil]
    show bnd (hEq (.list (E.map enc3)) (.list [])) asB = _
    rw [eq_nil]
    rfl
  cases E with
  | nil => exact seq_rt ((if_t tn).trans rfl)
  | cons t E =>
    refine seq_step ((if_f tn).trans rfl) ?_
    have lc2 := gLc_map enc3 (fun s => decide (m < s.1)) enc3 (gi := gSeq (gVar 1)) (h := tgN 4) (gt := gTest (gOp hGt (gOp hIx (gVar 4) (gC (.int (0)))) (gOp hIx (gVar 2) (gC (.int (1)))))) (ge := gVar 4)
      (ρ := [.int n, .list (r.map enc3), P, .list ((t :: E).map enc3), .none, .none, .none, .none, .none, .none, .none, .none]) (xs := r) rfl (by omega) (fun s _ => ⟨_, rfl, by simp only [bnd_ok, gVar_def, gC_def, gOp_def, gUn_def, gNil_def, gCons_def, gIf_def, gTest_def, gNot_def, gAnd_def, gOr_def, gAndV_def, gOrV_def, gNotV_def, gCB_def, asB_b, hAdd_i, hSub_i, hLt_i, hLe_i, hGt_i, hGe_i, hMul_r, hMul_l, hMod_i, hDiv_s, hBand_i, hShr_i, hPow_10_18, hPow_10_27, hPow_10_28, hPow_10_29, hPow_10_30, hEq_i, hNe_i, hLen_l, hLen_t, hMin2_i, hMax2_i, hMin3_i, hInt1_b, hInt1_i, hBits_i, hListOf_l, hListOf_t, hTupOf_l, hTupOf_t, gSeqS_def, gSet_def, gRet_def, gIfS_def, gNext_def, gTup_def, gLst_def, List.getElem?_cons_zero, List.getElem?_cons_succ, List.set_cons_zero, List.set_cons_succ, List.length_cons, List.length_nil, Nat.zero_add, Nat.reduceAdd, Nat.reduceLeDiff, Nat.reduceSub, Nat.reduceMul, if_true, if_false, Bool.false_eq_true, List.replicate_succ, List.replicate_zero, List.cons_append, List.nil_append, tgN, tgT, tgCons, tgNil, Int.reducePow, Int.reduceAdd, Int.reduceSub, Int.reduceMul, decide_true, decide_false, Bool.not_true, Bool.not_false, gChain_def, hIsa_int, hIsa_intb, hIsa_list, hIsa_tuple, gDrop_def, ix3_0, e1], fun _ => rfl⟩)
    rw [since_gt] at lc2
    refine seq_step (set_ok lc2) ?_
    dsimp only [List.set]
    have hw := wdue_ok (since_ord ho (m + 1)) (Nat.le_trans (since_len r _) hl) t.2.1 t.2.2 h1 h2
    refine seq_step (set_ok (callN_ok (ds := [.list ((since (m + 1) r).map enc3), .int t.2.1, .int t.2.2, .list (WS.map encI)]) ?_ rfl hw)) ?_
    · have i0 : hIx (.list ((t :: E).map enc3)) (.int 0) = .ok (enc3 t) := by
        rw [List.map_cons]
        refine hIx_l ?_
        unfold L2.atI L2.ixN
        simp
      simp only [bnd_ok, gVar_def, gC_def, gOp_def, gUn_def, gNil_def, gCons_def, gIf_def, gTest_def, gNot_def, gAnd_def, gOr_def, gAndV_def, gOrV_def, gNotV_def, gCB_def, asB_b, hAdd_i, hSub_i, hLt_i, hLe_i, hGt_i, hGe_i, hMul_r, hMul_l, hMod_i, hDiv_s, hBand_i, hShr_i, hPow_10_18, hPow_10_27, hPow_10_28, hPow_10_29, hPow_10_30, hEq_i, hNe_i, hLen_l, hLen_t, hMin2_i, hMax2_i, hMin3_i, hInt1_b, hInt1_i, hBits_i, hListOf_l, hListOf_t, hTupOf_l, hTupOf_t, gSeqS_def, gSet_def, gRet_def, gIfS_def, gNext_def, gTup_def, gLst_def, List.getElem?_cons_zero, List.getElem?_cons_succ, List.set_cons_zero, List.set_cons_succ, List.length_cons, List.length_nil, Nat.zero_add, Nat.reduceAdd, Nat.reduceLeDiff, Nat.reduceSub, Nat.reduceMul, if_true, if_false, Bool.false_eq_true, List.replicate_succ, List.replicate_zero, List.cons_append, List.nil_append, tgN, tgT, tgCons, tgNil, Int.reducePow, Int.reduceAdd, Int.reduceSub, Int.reduceMul, decide_true, decide_false, Bool.not_true, Bool.not_false, gChain_def, hIsa_int, hIsa_intb, hIsa_list, hIsa_tuple, gDrop_def, i0, ix3_1, ix3_2, e2]
    dsimp only [List.set]
    exact ret_ok (pick2 rfl)
/-! ### a paper -/
inductive Pap where
  | ways (a b t : Int) (WS : List (List Int))
  | side (a b t : Int) (S : List Int)
  | out (m : Int) (WS : List (List Int))
def encP : Pap → Dt
  | .ways a b t WS => .tuple [.str "ways", .int a, .int b, .int t, .list (WS.map encI)]
  | .side a b t S => .tuple [.str "side", .int a, .int b, .int t, .tuple (S.map .int)]
  | .out m WS => .tuple [.str "out", .int m, .list (WS.map encI)]
def Pap.Ok : Pap → Prop
  | .ways _ _ _ WS => WS.length ≤ 100 ∧ WS.flatten.length < 64
  | .side _ _ _ S => S.length < 64
  | .out _ WS => WS.length ≤ 100 ∧ WS.flatten.length < 64
def dueP (n : Int) (r : List T3) : Pap → Dt
  | .ways a b t WS => due "at least" (pairB n a b t && wayB (since t r) a b WS) WS.length
  | .side a b t S => due "at most" (pairB n a b t && sideB n a b S) ((since t r).filter (rimC S)).length
  | .out m WS => match outAt r m with
    | some t => due "out" (wayB (since (m + 1) r) t.2.1 t.2.2 WS) WS.length
    | none => .none
theorem dueP_ok {n : Int} {r : List T3} (ho : r.Pairwise fun s t => s.1 < t.1) (hl : r.length ≤ 60) {p : Pap} (h : p.Ok) : f_l_due [.int n, .list (r.map enc3), encP p] = .ok (dueP n r p) := by
  cases p with
  | ways a b t WS => exact due_ways ho hl (by have := h.1; omega) h.2
  | side a b t S => exact due_side (by omega) h
  | out m WS => exact due_out ho hl (by have := h.1; omega) h.2
theorem due_shaped {w : Str} (hw : SeqAt.shaped (.str w) = true) (v : Bool) (k : Nat) : SeqAt.shaped (due w v k) = true := by
  have h1 : PyData.canLay0 (.str w) = true := by
    unfold SeqAt.shaped at hw
    exact (Bool.and_eq_true _ _ ▸ hw).1
  have : Shp 2 (due w v k) := by
    unfold due
    cases v with
    | false => exact shp_none _
    | true =>
      refine shp_tup fun d hd => ?_
      · simp only [List.mem_cons, List.not_mem_nil, or_false] at hd
        rcases hd with rfl | rfl
        · exact ⟨h1, by unfold PyData.depth; omega⟩
        · exact shp_int _ _
  exact this.shaped (by omega)
theorem dueP_shaped (n : Int) (r : List T3) (p : Pap) : SeqAt.shaped (dueP n r p) = true := by
  cases p with
  | ways a b t WS => exact due_shaped sh_str.2.2.2.1 _ _
  | side a b t S => exact due_shaped sh_str.2.2.2.2 _ _
  | out m WS =>
    show SeqAt.shaped (match outAt r m with
      | some t => due "out" (wayB (since (m + 1) r) t.2.1 t.2.2 WS) WS.length
      | none => .none) = true
    cases outAt r m with
    | none => rfl
    | some t => exact due_shaped sh_str.2.2.1 _ _
theorem judgedP_ok {n : Int} {r : List T3} (ho : r.Pairwise fun s t => s.1 < t.1) (hl : r.length ≤ 60) {p : Pap} (h : p.Ok) : f_l_judged [.int n, .list (r.map enc3), encP p] = .ok (dueP n r p) := by
  cases p with
  | ways a b t WS =>
    show f_l_judged [.int n, .list (r.map enc3), .tuple [.str "ways", .int a, .int b, .int t, .list (WS.map encI)]] = .ok (due "at least" (pairB n a b t && wayB (since t r) a b WS) WS.length)
    unfold due
    have ho2 := since_ord ho t
    have hl2 : (since t r).length ≤ 60 := Nat.le_trans (since_len r t) hl
    have hm := many_ok ho2 hl2 a b (WS := WS) (by have := h.1; omega) (by have := h.2; omega)
    unfold mny at hm
    cases hp : pairB n a b t with
    | false =>
      have ht := jp_test n a b t (.list (r.map enc3)) (.tuple [.str "ways", .int a, .int b, .int t, .list (WS.map encI)]) (.str "ways") (.list (WS.map encI))
      rw [hp] at ht
      exact lj_ex (jd_5ex rfl (jp_bad ht))
    | true =>
      obtain ⟨k1, k2⟩ := jp_ways (r := r) (sh := .list (WS.map encI)) (by omega) hp
      cases hw : wayB (since t r) a b WS with
      | false =>
        rw [hw] at hm
        exact lj_ex (jd_5ex rfl (k2 hm))
      | true =>
        rw [hw] at hm
        exact lj_ok (jd_5ok rfl (k1 _ hm))
  | side a b t S =>
    show f_l_judged [.int n, .list (r.map enc3), .tuple [.str "side", .int a, .int b, .int t, .tuple (S.map .int)]] = .ok (due "at most" (pairB n a b t && sideB n a b S) ((since t r).filter (rimC S)).length)
    unfold due
    have hs := jp_side (n := n) (a := a) (b := b) (t := t) (r := r) (S := S) (by omega) (by have : S.length < 64 := h; omega)
    cases hc : (pairB n a b t && sideB n a b S) with
    | false =>
      rw [hc] at hs
      exact lj_ex (jd_5ex rfl hs)
    | true =>
      rw [hc] at hs
      exact lj_ok (jd_5ok rfl hs)
  | out m WS =>
    show f_l_judged [.int n, .list (r.map enc3), .tuple [.str "out", .int m, .list (WS.map encI)]] = .ok (match outAt r m with
      | some t => due "out" (wayB (since (m + 1) r) t.2.1 t.2.2 WS) WS.length
      | none => .none)
    obtain ⟨k0, k1⟩ := jo_ok (r := r) (W := .list (WS.map encI)) (m := m) (by omega)
    cases ht : outAt r m with
    | none => exact lj_ex (jd_3ex rfl (k0 ht))
    | some t =>
      have ho2 := since_ord ho (m + 1)
      have hl2 : (since (m + 1) r).length ≤ 60 := Nat.le_trans (since_len r _) hl
      have hm := many_ok ho2 hl2 t.2.1 t.2.2 (WS := WS) (by have := h.1; omega) (by have := h.2; omega)
      unfold mny at hm
      unfold due
      obtain ⟨j1, j2⟩ := k1 t ht
      simp only
      cases hw : wayB (since (m + 1) r) t.2.1 t.2.2 WS with
      | false =>
        rw [hw] at hm
        exact lj_ex (jd_3ex rfl (j2 hm))
      | true =>
        rw [hw] at hm
        exact lj_ok (jd_3ok rfl (j1 _ hm))
end K58
end T_K58F

section T_K58G
set_option linter.all false
set_option maxRecDepth 100000
set_option maxHeartbeats 4000000
/-! K58G: odd papers are refused. -/
namespace K58
open PySem Sim FamA K59

theorem pick8 (L : List Dt) (h : L.length = 8) (k : Int) : ∃ d ∈ L, hIx (.list L) (.int (k % 8)) = .ok d := by
  obtain ⟨j, hj⟩ : ∃ j : Nat, k % 8 = j := ⟨(k % 8).toNat, by omega⟩
  have hlt : j < L.length := by omega
  rw [hj]
  exact ⟨L[j], List.getElem_mem hlt, hIx_ds hlt⟩
def oth (c : Bool) : Dt := if c then .list [.list [.int 0]] else .tuple [.int 0, .int 1]
def odd6 (w : Dt) (tl ini : List Dt) : List Dt := [.tuple (.str "way" :: tl), .tuple (.str "" :: tl), .tuple ini, .tuple ((w :: tl) ++ [.int 0]), .tuple [w], .tuple (ini ++ [.int 7])]
def odd2 (w o la : Dt) (tl ini : List Dt) : List Dt := [.tuple (ini ++ [o]), .tuple ([w, la] ++ tl.drop 1)]
noncomputable def oT : List Dt → O Bool := gTest (gOp hEq (gOp hIx (gVar 0) (gC (.int (0)))) (gC (.str "side")))
theorem oT_ok {w : Str} {tl : List Dt} {k o x3 : Dt} {c : Bool} (hc : hEq (.str w) (.str "side") = .ok (.bool c)) : oT [.tuple (.str w :: tl), k, o, x3] = .ok c := by
  have e0 : hIx (.tuple (.str w :: tl)) (.int 0) = .ok (.str w) := by
    refine hIx_t ?_
    unfold L2.atI L2.ixN
    simp
  unfold oT
  simp only [bnd_ok, gVar_def, gC_def, gOp_def, gUn_def, gNil_def, gCons_def, gIf_def, gTest_def, gNot_def, gAnd_def, gOr_def, gAndV_def, gOrV_def, gNotV_def, gCB_def, asB_b, hAdd_i, hSub_i, hLt_i, hLe_i, hGt_i, hGe_i, hMul_r, hMul_l, hMod_i, hDiv_s, hBand_i, hShr_i, hPow_10_18, hPow_10_27, hPow_10_28, hPow_10_29, hPow_10_30, hEq_i, hNe_i, hLen_l, hLen_t, hMin2_i, hMax2_i, hMin3_i, hInt1_b, hInt1_i, hBits_i, hListOf_l, hListOf_t, hTupOf_l, hTupOf_t, gSeqS_def, gSet_def, gRet_def, gIfS_def, gNext_def, gTup_def, gLst_def, List.getElem?_cons_zero, List.getElem?_cons_succ, List.set_cons_zero, List.set_cons_succ, List.length_cons, List.length_nil, Nat.zero_add, Nat.reduceAdd, Nat.reduceLeDiff, Nat.reduceSub, Nat.reduceMul, if_true, if_false, Bool.false_eq_true, List.replicate_succ, List.replicate_zero, List.cons_append, List.nil_append, tgN, tgT, tgCons, tgNil, Int.reducePow, Int.reduceAdd, Int.reduceSub, Int.reduceMul, decide_true, decide_false, Bool.not_true, Bool.not_false, gChain_def, hIsa_int, hIsa_intb, hIsa_list, hIsa_tuple, gDrop_def, e0, hc]
theorem oS_ok {w : Str} {tl : List Dt} {k x3 : Dt} {c : Bool} (hc : hEq (.str w) (.str "side") = .ok (.bool c)) {z : O Fl} {G : Gs} (h : G [.tuple (.str w :: tl), k, oth c, x3] = z) :
    gSeqS (gSet 2 (gTup (gCons (gC (.int (0))) (gCons (gC (.int (1))) (gNil))))) (gSeqS (gIfS oT (gSet 2 (gLst (gCons (gLst (gCons (gC (.int (0))) (gNil))) (gNil)))) (gNext)) G) [.tuple (.str w :: tl), k, .none, x3] = z := by
  refine seq_step (by rfl) ?_
  dsimp only [List.set]
  have ht := oT_ok (tl := tl) (k := k) (o := .tuple [.int 0, .int 1]) (x3 := x3) hc
  cases c with
  | false => exact seq_step ((if_f ht).trans rfl) h
  | true => exact seq_step ((if_t ht).trans (by rfl)) h
noncomputable def oL : Gd := gLst (gCons (gOp hCatT (gTup (gCons (gC (.str "way")) (gNil))) (gSl hSlT (gVar 0) (gPart (gC (.int (1)))) (gNoPart))) (gCons (gOp hCatT (gTup (gCons (gC (.str "")) (gNil))) (gSl hSlT (gVar 0) (gPart (gC (.int (1)))) (gNoPart))) (gCons (gSl hSlT (gVar 0) (gNoPart) (gPart (gUn (hU fun i => -i) (gC (.int (1)))))) (gCons (gOp hCatT (gVar 0) (gTup (gCons (gC (.int (0))) (gNil)))) (gCons (gSl hSlT (gVar 0) (gNoPart) (gPart (gC (.int (1))))) (gCons (gOp hCatT (gSl hSlT (gVar 0) (gNoPart) (gPart (gUn (hU fun i => -i) (gC (.int (1)))))) (gTup (gCons (gC (.int (7))) (gNil)))) (gNil)))))))
noncomputable def oM : Gd := gLst (gCons (gOp hCatT (gSl hSlT (gVar 0) (gNoPart) (gPart (gUn (hU fun i => -i) (gC (.int (1)))))) (gTup (gCons (gVar 2) (gNil)))) (gCons (gOp hCatT (gTup (gCons (gOp hIx (gVar 0) (gC (.int (0)))) (gCons (gOp hIx (gVar 0) (gUn (hU fun i => -i) (gC (.int (1))))) (gNil)))) (gSl hSlT (gVar 0) (gPart (gC (.int (2)))) (gNoPart))) (gNil)))
theorem oL5 (w x1 x2 x3 x4 k o z : Dt) : oL [.tuple [w, x1, x2, x3, x4], k, o, z] = .ok (.list (odd6 w [x1, x2, x3, x4] [w, x1, x2, x3])) := by
  unfold oL
  rfl
theorem oM5 (w x1 x2 x3 x4 k o z : Dt) : oM [.tuple [w, x1, x2, x3, x4], k, o, z] = .ok (.list (odd2 w o x4 [x1, x2, x3, x4] [w, x1, x2, x3])) := by
  unfold oM
  rfl
theorem oL3 (w x1 x2 k o z : Dt) : oL [.tuple [w, x1, x2], k, o, z] = .ok (.list (odd6 w [x1, x2] [w, x1])) := by
  unfold oL
  rfl
theorem oM3 (w x1 x2 k o z : Dt) : oM [.tuple [w, x1, x2], k, o, z] = .ok (.list (odd2 w o x2 [x1, x2] [w, x1])) := by
  unfold oM
  rfl
theorem odd_ok {w : Str} {tl ini : List Dt} {la : Dt} {k : Int} {c : Bool} (hc : hEq (.str w) (.str "side") = .ok (.bool c))
    (h6 : ∀ z, oL [.tuple (.str w :: tl), .int k, oth c, z] = .ok (.list (odd6 (.str w) tl ini)))
    (h2 : ∀ z, oM [.tuple (.str w :: tl), .int k, oth c, z] = .ok (.list (odd2 (.str w) (oth c) la tl ini))) :
    ∃ d ∈ odd6 (.str w) tl ini ++ odd2 (.str w) (oth c) la tl ini, f_l_odd [.tuple (.str w :: tl), .int k] = .ok d := by
  obtain ⟨d, hd, hi⟩ := pick8 (odd6 (.str w) tl ini ++ odd2 (.str w) (oth c) la tl ini) rfl k
  refine ⟨d, hd, fnN_rt ?_⟩
  show g_l_odd [.tuple (.str w :: tl), .int k, .none, .none] = _
  refine oS_ok hc ?_
  refine seq_step (set_ok (h6 _)) ?_
  dsimp only [List.set]
  refine ret_ok ?_
  have hm : hMod (.int k) (.int 8) = .ok (.int (k % 8)) := hMod_i (by omega)
  have hcat : hCat (.list (odd6 (.str w) tl ini)) (.list (odd2 (.str w) (oth c) la tl ini)) = .ok (.list (odd6 (.str w) tl ini ++ odd2 (.str w) (oth c) la tl ini)) := by rfl
  have e1 : gOp hCat (gVar 3) oM [.tuple (.str w :: tl), .int k, oth c, .list (odd6 (.str w) tl ini)] = .ok (.list (odd6 (.str w) tl ini ++ odd2 (.str w) (oth c) la tl ini)) := by
    rw [gOp_def, h2]
    exact hcat
  have e2 : gOp hMod (gVar 1) (gC (.int (8))) [.tuple (.str w :: tl), .int k, oth c, .list (odd6 (.str w) tl ini)] = .ok (.int (k % 8)) := by
    simp only [bnd_ok, gVar_def, gC_def, gOp_def, gUn_def, gNil_def, gCons_def, gIf_def, gTest_def, gNot_def, gAnd_def, gOr_def, gAndV_def, gOrV_def, gNotV_def, gCB_def, asB_b, hAdd_i, hSub_i, hLt_i, hLe_i, hGt_i, hGe_i, hMul_r, hMul_l, hMod_i, hDiv_s, hBand_i, hShr_i, hPow_10_18, hPow_10_27, hPow_10_28, hPow_10_29, hPow_10_30, hEq_i, hNe_i, hLen_l, hLen_t, hMin2_i, hMax2_i, hMin3_i, hInt1_b, hInt1_i, hBits_i, hListOf_l, hListOf_t, hTupOf_l, hTupOf_t, gSeqS_def, gSet_def, gRet_def, gIfS_def, gNext_def, gTup_def, gLst_def, List.getElem?_cons_zero, List.getElem?_cons_succ, List.set_cons_zero, List.set_cons_succ, List.length_cons, List.length_nil, Nat.zero_add, Nat.reduceAdd, Nat.reduceLeDiff, Nat.reduceSub, Nat.reduceMul, if_true, if_false, Bool.false_eq_true, List.replicate_succ, List.replicate_zero, List.cons_append, List.nil_append, tgN, tgT, tgCons, tgNil, Int.reducePow, Int.reduceAdd, Int.reduceSub, Int.reduceMul, decide_true, decide_false, Bool.not_true, Bool.not_false, gChain_def, hIsa_int, hIsa_intb, hIsa_list, hIsa_tuple, gDrop_def, hm]
  show gOp hIx (gOp hCat (gVar 3) oM) (gOp hMod (gVar 1) (gC (.int (8)))) _ = _
  rw [gOp_def, e1, e2]
  exact hi
theorem sh_way : SeqAt.shaped (.str "way") = true ∧ SeqAt.shaped (.str "") = true := by decide +kernel
theorem sh_eqs : ((("way" : Str) == "ways") = false ∧ (("way" : Str) == "side") = false ∧ (("" : Str) == "ways") = false ∧ (("" : Str) == "side") = false) ∧ (("way" : Str) == "out") = false ∧ (("" : Str) == "out") = false := by decide +kernel
theorem nolist_int (i : Int) : hIsa .list (.int i) = .ok (.bool false) := rfl
theorem nolist_tup (xs : List Dt) : hIsa .list (.tuple xs) = .ok (.bool false) := rfl
theorem notup_int (i : Int) : hIsa .tuple (.int i) = .ok (.bool false) := rfl
theorem notup_list (xs : List Dt) : hIsa .tuple (.list xs) = .ok (.bool false) := rfl
theorem whole_no {d : Dt} (h : hIsa .int d = .ok (.bool false)) : f_is_whole [d] = .ok (.bool false) := by
  refine fnN_rt ?_
  show g_is_whole [d] = _
  unfold g_is_whole
  refine ret_ok ?_
  simp only [bnd_ok, gVar_def, gC_def, gOp_def, gUn_def, gNil_def, gCons_def, gIf_def, gTest_def, gNot_def, gAnd_def, gOr_def, gAndV_def, gOrV_def, gNotV_def, gCB_def, asB_b, hAdd_i, hSub_i, hLt_i, hLe_i, hGt_i, hGe_i, hMul_r, hMul_l, hMod_i, hDiv_s, hBand_i, hShr_i, hPow_10_18, hPow_10_27, hPow_10_28, hPow_10_29, hPow_10_30, hEq_i, hNe_i, hLen_l, hLen_t, hMin2_i, hMax2_i, hMin3_i, hInt1_b, hInt1_i, hBits_i, hListOf_l, hListOf_t, hTupOf_l, hTupOf_t, gSeqS_def, gSet_def, gRet_def, gIfS_def, gNext_def, gTup_def, gLst_def, List.getElem?_cons_zero, List.getElem?_cons_succ, List.set_cons_zero, List.set_cons_succ, List.length_cons, List.length_nil, Nat.zero_add, Nat.reduceAdd, Nat.reduceLeDiff, Nat.reduceSub, Nat.reduceMul, if_true, if_false, Bool.false_eq_true, List.replicate_succ, List.replicate_zero, List.cons_append, List.nil_append, tgN, tgT, tgCons, tgNil, Int.reducePow, Int.reduceAdd, Int.reduceSub, Int.reduceMul, decide_true, decide_false, Bool.not_true, Bool.not_false, gChain_def, hIsa_int, hIsa_intb, hIsa_list, hIsa_tuple, gDrop_def, h]
theorem place_no {n : Int} {d : Dt} (h : hIsa .int d = .ok (.bool false)) : f_is_place [.int n, d] = .ok (.bool false) := by
  refine fnN_rt ?_
  show g_is_place [.int n, d] = _
  unfold g_is_place
  have e : gCallN 1 f_is_whole (gCons (gVar 1) (gNil)) [.int n, d] = .ok (.bool false) := callN_ok (ds := [d]) rfl rfl (whole_no h)
  simp only [bnd_ok, gVar_def, gC_def, gOp_def, gUn_def, gNil_def, gCons_def, gIf_def, gTest_def, gNot_def, gAnd_def, gOr_def, gAndV_def, gOrV_def, gNotV_def, gCB_def, asB_b, hAdd_i, hSub_i, hLt_i, hLe_i, hGt_i, hGe_i, hMul_r, hMul_l, hMod_i, hDiv_s, hBand_i, hShr_i, hPow_10_18, hPow_10_27, hPow_10_28, hPow_10_29, hPow_10_30, hEq_i, hNe_i, hLen_l, hLen_t, hMin2_i, hMax2_i, hMin3_i, hInt1_b, hInt1_i, hBits_i, hListOf_l, hListOf_t, hTupOf_l, hTupOf_t, gSeqS_def, gSet_def, gRet_def, gIfS_def, gNext_def, gTup_def, gLst_def, List.getElem?_cons_zero, List.getElem?_cons_succ, List.set_cons_zero, List.set_cons_succ, List.length_cons, List.length_nil, Nat.zero_add, Nat.reduceAdd, Nat.reduceLeDiff, Nat.reduceSub, Nat.reduceMul, if_true, if_false, Bool.false_eq_true, List.replicate_succ, List.replicate_zero, List.cons_append, List.nil_append, tgN, tgT, tgCons, tgNil, Int.reducePow, Int.reduceAdd, Int.reduceSub, Int.reduceMul, decide_true, decide_false, Bool.not_true, Bool.not_false, gChain_def, hIsa_int, hIsa_intb, hIsa_list, hIsa_tuple, gDrop_def, e]
theorem ways_no {n a b t : Int} {r : List T3} {sh : Dt} (hl : r.length ≤ 1000) (h : hIsa .list sh = .ok (.bool false)) : f_judged_pair [.int n, .list (r.map enc3), .tuple [.str "ways", .int a, .int b, .int t, sh]] = .ex NP := by
  cases hp : pairB n a b t with
  | false =>
    have ht := jp_test n a b t (.list (r.map enc3)) (.tuple [.str "ways", .int a, .int b, .int t, sh]) (.str "ways") sh
    rw [hp] at ht
    exact jp_bad ht
  | true => exact (jp_ways hl hp).2 (many_no h)
theorem out_no {m : Int} {r : List T3} {W : Dt} (hl : r.length ≤ 1000) (h : hIsa .list W = .ok (.bool false)) : f_judged_out [.list (r.map enc3), .tuple [.str "out", .int m, W]] = .ex NP := by
  obtain ⟨k0, k1⟩ := jo_ok (r := r) (W := W) (m := m) hl
  cases ht : outAt r m with
  | none => exact k0 ht
  | some t => exact (k1 t ht).2 (many_no h)
/-- a paper of a pair, made odd -/
theorem odd_pair {n a b t k : Int} {r : List T3} {w : Str} {c : Bool} {sh : Dt} (hl : r.length ≤ 1000) (hc : hEq (.str w) (.str "side") = .ok (.bool c)) (hi : hIsa .int sh = .ok (.bool false))
    (hb : ∀ d, (d = .int 7 ∨ d = oth c) → f_judged_pair [.int n, .list (r.map enc3), .tuple [.str w, .int a, .int b, .int t, d]] = .ex NP) :
    ∃ Q, f_l_odd [.tuple [.str w, .int a, .int b, .int t, sh], .int k] = .ok Q ∧ f_l_judged [.int n, .list (r.map enc3), Q] = .ok .none := by
  obtain ⟨Q, hQ, hq⟩ := odd_ok (w := w) (tl := [.int a, .int b, .int t, sh]) (ini := [.str w, .int a, .int b, .int t]) (la := sh) (k := k) hc (fun z => oL5 _ _ _ _ _ _ _ z) (fun z => oM5 _ _ _ _ _ _ _ z)
  refine ⟨Q, hq, lj_ex ?_⟩
  clear hq
  rcases List.mem_append.mp hQ with hQ | hQ
  · unfold odd6 at hQ
    simp only [List.mem_cons, List.not_mem_nil, or_false] at hQ
    rcases hQ with rfl | rfl | rfl | rfl | rfl | rfl
    · exact jd_5ex rfl (jp_word sh_way.1 sh_eqs.1.1 sh_eqs.1.2.1)
    · exact jd_5ex rfl (jp_word sh_way.2 sh_eqs.1.2.2.1 sh_eqs.1.2.2.2)
    · exact jd_no (by simp) (by simp)
    · exact jd_no (by simp) (by simp)
    · exact jd_no (by simp) (by simp)
    · exact jd_5ex rfl (hb _ (.inl rfl))
  · unfold odd2 at hQ
    simp only [List.mem_cons, List.not_mem_nil, or_false] at hQ
    rcases hQ with rfl | rfl
    · exact jd_5ex rfl (hb _ (.inr rfl))
    · exact jd_5ex rfl (jp_bad (w := .str w) (a := sh) (b := .int b) (t := .int t) (sh := sh) (jp_testP (place_no hi)))
theorem odd_out {n m k : Int} {r : List T3} {WS : List (List Int)} (hl : r.length ≤ 1000) :
    ∃ Q, f_l_odd [.tuple [.str "out", .int m, .list (WS.map encI)], .int k] = .ok Q ∧ f_l_judged [.int n, .list (r.map enc3), Q] = .ok .none := by
  have hc : hEq (.str "out") (.str "side") = .ok (.bool false) := hEq_str sh_str.2.2.1 sh_str.2.1
  obtain ⟨Q, hQ, hq⟩ := odd_ok (w := "out") (tl := [.int m, .list (WS.map encI)]) (ini := [.str "out", .int m]) (la := .list (WS.map encI)) (k := k) hc (fun z => oL3 _ _ _ _ _ z) (fun z => oM3 _ _ _ _ _ z)
  refine ⟨Q, hq, lj_ex ?_⟩
  clear hq
  rcases List.mem_append.mp hQ with hQ | hQ
  · unfold odd6 at hQ
    simp only [List.mem_cons, List.not_mem_nil, or_false] at hQ
    rcases hQ with rfl | rfl | rfl | rfl | rfl | rfl
    · exact jd_3ex rfl (jo_bad (.inl ⟨_, rfl, sh_way.1, sh_eqs.2.1⟩))
    · exact jd_3ex rfl (jo_bad (.inl ⟨_, rfl, sh_way.2, sh_eqs.2.2⟩))
    · exact jd_no (by simp) (by simp)
    · exact jd_no (by simp) (by simp)
    · exact jd_no (by simp) (by simp)
    · exact jd_3ex rfl (out_no hl (nolist_int 7))
  · unfold odd2 at hQ
    simp only [List.mem_cons, List.not_mem_nil, or_false] at hQ
    rcases hQ with rfl | rfl
    · exact jd_3ex rfl (out_no hl (nolist_tup _))
    · exact jd_3ex rfl (jo_bad (m := .list (WS.map encI)) (W := .list (WS.map encI)) (.inr ⟨rfl, whole_no rfl⟩))
theorem oddP_ok {n k : Int} {r : List T3} (hl : r.length ≤ 1000) (p : Pap) : ∃ Q, f_l_odd [encP p, .int k] = .ok Q ∧ f_l_judged [.int n, .list (r.map enc3), Q] = .ok .none := by
  cases p with
  | ways a b t WS =>
    have hc : hEq (.str "ways") (.str "side") = .ok (.bool false) := hEq_str sh_str.1 sh_str.2.1
    refine odd_pair hl hc rfl fun d hd => ?_
    rcases hd with rfl | rfl
    · exact ways_no hl rfl
    · exact ways_no hl rfl
  | side a b t S =>
    have hc : hEq (.str "side") (.str "side") = .ok (.bool true) := hEq_str sh_str.2.1 sh_str.2.1
    refine odd_pair hl hc rfl fun d hd => ?_
    rcases hd with rfl | rfl
    · exact jp_sideno rfl
    · exact jp_sideno rfl
  | out m WS => exact odd_out hl
end K58
end T_K58G

section T_K58H
set_option linter.all false
set_option maxRecDepth 100000
set_option maxHeartbeats 4000000
/-! K58H: the papers that the law builds. -/
namespace K58
open PySem Sim FamA K59

theorem hSl_ij {xs : List Int} {i j : Int} (h0 : 0 ≤ i) (h1 : i ≤ j) (h2 : j ≤ xs.length) : hSl (.list (xs.map .int)) (some i) (some j) = .ok (.list (((xs.drop i.toNat).take (j.toNat - i.toNat)).map .int)) := by
  obtain ⟨p, rfl⟩ : ∃ p : Nat, i = (p : Int) := ⟨i.toNat, by omega⟩
  obtain ⟨q, rfl⟩ : ∃ q : Nat, j = (q : Int) := ⟨j.toNat, by omega⟩
  show O.ok (PyData.list (cutD (xs.map .int) (some (p : Int)) (some (q : Int)))) = _
  unfold cutD
  rw [HT.sIx_nat, HT.sIx_nat, List.length_map, Nat.min_eq_left (by omega), Nat.min_eq_left (by omega), ← List.map_drop, ← List.map_take]
  simp only [Int.toNat_natCast]
def wC (p : Int) (w U : List Int) (t : T3) : Bool := on t p && (ne3 t && !decide (t.1 ∈ w ++ U))
theorem went_lc {ts : List T3} (hl : ts.length ≤ 60) (a b N x : Dt) {U w : List Int} (hU : U.length ≤ 100) (hw : w.length ≤ 100) (p : Int) (x8 x9 x10 x11 x12 : Dt) :
    gLc (gSeq (gVar 0)) (tgN 9) (gAnd (gTest (gOp hIn (gVar 6) (gSl hSlT (gVar 9) (gPart (gC (.int (1)))) (gNoPart)))) (gAnd (gTest (gOp hNe (gOp hIx (gVar 9) (gC (.int (1)))) (gOp hIx (gVar 9) (gC (.int (2)))))) (gTest (gOp hNotIn (gOp hIx (gVar 9) (gC (.int (0)))) (gOp hCat (gVar 5) (gVar 4)))))) (gVar 9)
      [.list (ts.map enc3), a, b, N, .list (U.map .int), .list (w.map .int), .int p, x, x8, x9, x10, x11, x12] = .ok (.list ((ts.filter (wC p w U)).map enc3)) := by
  refine gLc_map enc3 (wC p w U) enc3 (xs := ts) rfl (by omega) fun t _ => ⟨[.list (ts.map enc3), a, b, N, .list (U.map .int), .list (w.map .int), .int p, x, x8, enc3 t, x10, x11, x12], rfl, ?_, fun _ => rfl⟩
  have h1 := hIn_tie t p
  have c1 : gTest (gOp hIn (gVar 6) (gSl hSlT (gVar 9) (gPart (gC (.int (1)))) (gNoPart))) [.list (ts.map enc3), a, b, N, .list (U.map .int), .list (w.map .int), .int p, x, x8, enc3 t, x10, x11, x12] = .ok (on t p) := by
    have e1 : gSl hSlT (gVar 9) (gPart (gC (.int (1)))) (gNoPart) [.list (ts.map enc3), a, b, N, .list (U.map .int), .list (w.map .int), .int p, x, x8, enc3 t, x10, x11, x12] = .ok (encT t) := rfl
    rw [gTest_def, gOp_def, e1]
    show bnd (hIn (.int p) (encT t)) asB = _
    rw [h1]
    rfl
  have c2 : gTest (gOp hNe (gOp hIx (gVar 9) (gC (.int (1)))) (gOp hIx (gVar 9) (gC (.int (2))))) [.list (ts.map enc3), a, b, N, .list (U.map .int), .list (w.map .int), .int p, x, x8, enc3 t, x10, x11, x12] = .ok (ne3 t) := by
    simp only [bnd_ok, gVar_def, gC_def, gOp_def, gUn_def, gNil_def, gCons_def, gIf_def, gTest_def, gNot_def, gAnd_def, gOr_def, gAndV_def, gOrV_def, gNotV_def, gCB_def, asB_b, hAdd_i, hSub_i, hLt_i, hLe_i, hGt_i, hGe_i, hMul_r, hMul_l, hMod_i, hDiv_s, hBand_i, hShr_i, hPow_10_18, hPow_10_27, hPow_10_28, hPow_10_29, hPow_10_30, hEq_i, hNe_i, hLen_l, hLen_t, hMin2_i, hMax2_i, hMin3_i, hInt1_b, hInt1_i, hBits_i, hListOf_l, hListOf_t, hTupOf_l, hTupOf_t, gSeqS_def, gSet_def, gRet_def, gIfS_def, gNext_def, gTup_def, gLst_def, List.getElem?_cons_zero, List.getElem?_cons_succ, List.set_cons_zero, List.set_cons_succ, List.length_cons, List.length_nil, Nat.zero_add, Nat.reduceAdd, Nat.reduceLeDiff, Nat.reduceSub, Nat.reduceMul, if_true, if_false, Bool.false_eq_true, List.replicate_succ, List.replicate_zero, List.cons_append, List.nil_append, tgN, tgT, tgCons, tgNil, Int.reducePow, Int.reduceAdd, Int.reduceSub, Int.reduceMul, decide_true, decide_false, Bool.not_true, Bool.not_false, gChain_def, hIsa_int, hIsa_intb, hIsa_list, hIsa_tuple, gDrop_def, ix3_1, ix3_2]
    rfl
  have c3 : gTest (gOp hNotIn (gOp hIx (gVar 9) (gC (.int (0)))) (gOp hCat (gVar 5) (gVar 4))) [.list (ts.map enc3), a, b, N, .list (U.map .int), .list (w.map .int), .int p, x, x8, enc3 t, x10, x11, x12] = .ok (!decide (t.1 ∈ w ++ U)) := by
    have hc := hCat_map PyData.int w U (by omega)
    have hn := hNotIn_ints t.1 (w ++ U)
    simp only [bnd_ok, gVar_def, gC_def, gOp_def, gUn_def, gNil_def, gCons_def, gIf_def, gTest_def, gNot_def, gAnd_def, gOr_def, gAndV_def, gOrV_def, gNotV_def, gCB_def, asB_b, hAdd_i, hSub_i, hLt_i, hLe_i, hGt_i, hGe_i, hMul_r, hMul_l, hMod_i, hDiv_s, hBand_i, hShr_i, hPow_10_18, hPow_10_27, hPow_10_28, hPow_10_29, hPow_10_30, hEq_i, hNe_i, hLen_l, hLen_t, hMin2_i, hMax2_i, hMin3_i, hInt1_b, hInt1_i, hBits_i, hListOf_l, hListOf_t, hTupOf_l, hTupOf_t, gSeqS_def, gSet_def, gRet_def, gIfS_def, gNext_def, gTup_def, gLst_def, List.getElem?_cons_zero, List.getElem?_cons_succ, List.set_cons_zero, List.set_cons_succ, List.length_cons, List.length_nil, Nat.zero_add, Nat.reduceAdd, Nat.reduceLeDiff, Nat.reduceSub, Nat.reduceMul, if_true, if_false, Bool.false_eq_true, List.replicate_succ, List.replicate_zero, List.cons_append, List.nil_append, tgN, tgT, tgCons, tgNil, Int.reducePow, Int.reduceAdd, Int.reduceSub, Int.reduceMul, decide_true, decide_false, Bool.not_true, Bool.not_false, gChain_def, hIsa_int, hIsa_intb, hIsa_list, hIsa_tuple, gDrop_def, ix3_0, hc, hn]
  rw [gAnd_def, c1, gAnd_def, c2, c3]
  unfold wC
  cases on t p <;> cases ne3 t <;> rfl
theorem went_ok {ts : List T3} (hl : ts.length ≤ 60) (a b : Int) {N U : List Int} (hN : N.length ≤ 8) (hU : U.length ≤ 100) :
    ∃ w : List Int, f_l_went [.list (ts.map enc3), .int a, .int b, .list (N.map .int), .list (U.map .int)] = .ok (.list (w.map .int)) ∧ w.length ≤ 8 := by
  obtain ⟨ρ', hf, w, p, x7, x8, x9, x10, x11, x12, rfl, hw⟩ := forE_ix PyData.int (h := tgN 7) (b := g_l_went_L1) N
    (fun i ρ => ∃ (w : List Int) (p : Int) (x7 x8 x9 x10 x11 x12 : Dt), ρ = [.list (ts.map enc3), .int a, .int b, .list (N.map .int), .list (U.map .int), .list (w.map .int), .int p, x7, x8, x9, x10, x11, x12] ∧ w.length ≤ i)
    (ρ := [.list (ts.map enc3), .int a, .int b, .list (N.map .int), .list (U.map .int), .list (([] : List Int).map .int), .int a, .none, .none, .none, .none, .none, .none]) ⟨[], a, _, _, _, _, _, _, rfl, by simp⟩ (by
      rintro i ρ hi ⟨w, p, x7, x8, x9, x10, x11, x12, rfl, hw⟩
      generalize N[i] = k
      have hlc := went_lc hl (.int a) (.int b) (.list (N.map .int)) (.int k) hU (by omega : w.length ≤ 100) p x8 x9 x10 x11 x12
      generalize ts.filter (wC p w U) = E at hlc
      have t1 : gTest (gOp hNe (gVar 8) (gLst (gNil))) [.list (ts.map enc3), .int a, .int b, .list (N.map .int), .list (U.map .int), .list (w.map .int), .int p, .int k, .list (E.map enc3), x9, x10, x11, x12] = .ok (!E.isEmpty) := by
        rw [gTest_def, gOp_def, gLst_nil]
        show bnd (hNe (.list (E.map enc3)) (.list [])) asB = _
        rw [ne_nil]
        rfl
      have t2 : gTest (gOp hNe (gVar 6) (gVar 2)) [.list (ts.map enc3), .int a, .int b, .list (N.map .int), .list (U.map .int), .list (w.map .int), .int p, .int k, .list (E.map enc3), x9, x10, x11, x12] = .ok (!(p == b)) := by simp only [bnd_ok, gVar_def, gC_def, gOp_def, gUn_def, gNil_def, gCons_def, gIf_def, gTest_def, gNot_def, gAnd_def, gOr_def, gAndV_def, gOrV_def, gNotV_def, gCB_def, asB_b, hAdd_i, hSub_i, hLt_i, hLe_i, hGt_i, hGe_i, hMul_r, hMul_l, hMod_i, hDiv_s, hBand_i, hShr_i, hPow_10_18, hPow_10_27, hPow_10_28, hPow_10_29, hPow_10_30, hEq_i, hNe_i, hLen_l, hLen_t, hMin2_i, hMax2_i, hMin3_i, hInt1_b, hInt1_i, hBits_i, hListOf_l, hListOf_t, hTupOf_l, hTupOf_t, gSeqS_def, gSet_def, gRet_def, gIfS_def, gNext_def, gTup_def, gLst_def, List.getElem?_cons_zero, List.getElem?_cons_succ, List.set_cons_zero, List.set_cons_succ, List.length_cons, List.length_nil, Nat.zero_add, Nat.reduceAdd, Nat.reduceLeDiff, Nat.reduceSub, Nat.reduceMul, if_true, if_false, Bool.false_eq_true, List.replicate_succ, List.replicate_zero, List.cons_append, List.nil_append, tgN, tgT, tgCons, tgNil, Int.reducePow, Int.reduceAdd, Int.reduceSub, Int.reduceMul, decide_true, decide_false, Bool.not_true, Bool.not_false, gChain_def, hIsa_int, hIsa_intb, hIsa_list, hIsa_tuple, gDrop_def]
      cases hc : (!E.isEmpty && !(p == b)) with
      | false =>
        refine ⟨_, _, rfl, .inl ?_, w, p, .int k, .list (E.map enc3), x9, x10, x11, x12, rfl, by omega⟩
        unfold g_l_went_L1
        refine seq_step (set_ok hlc) ?_
        dsimp only [List.set]
        refine (if_f ?_).trans rfl
        rw [gAnd_def, t1, t2]
        cases h : E.isEmpty
        · rw [h] at hc
          cases h2 : (p == b)
          · rw [h2] at hc; cases hc
          · rfl
        · rfl
      | true =>
        rw [Bool.and_eq_true] at hc
        rw [hc.1] at t1
        rw [hc.2] at t2
        have hE : 0 < E.length := by
          cases E with
          | nil => cases hc.1
          | cons x E => simp
        have hm0 := Int.emod_nonneg k (by omega : (E.length : Int) ≠ 0)
        have hm1 := Int.emod_lt_of_pos k (by omega : (0 : Int) < E.length)
        have hix := hIx_l (atI_map enc3 hm0 hm1)
        generalize E[(k % (E.length : Int)).toNat]'(by omega) = u at hix
        refine ⟨_, _, rfl, .inl ?_, w ++ [u.1], u.2.1 + u.2.2 - p, .int k, .list (E.map enc3), x9, .int u.1, .int u.2.1, .int u.2.2, rfl, by rw [List.length_append, List.length_singleton]; omega⟩
        unfold g_l_went_L1
        refine seq_step (set_ok hlc) ?_
        dsimp only [List.set]
        refine (if_t ?_).trans ?_
        · rw [gAnd_def, t1, t2]
          rfl
        have hmod : hMod (.int k) (.int (E.length : Nat)) = .ok (.int (k % (E.length : Int))) := hMod_i (by omega)
        refine seq_step (asg_ok (d := enc3 u) (ρ' := [.list (ts.map enc3), .int a, .int b, .list (N.map .int), .list (U.map .int), .list (w.map .int), .int p, .int k, .list (E.map enc3), x9, .int u.1, .int u.2.1, .int u.2.2]) ?_ rfl) ?_
        · simp only [bnd_ok, gVar_def, gC_def, gOp_def, gUn_def, gNil_def, gCons_def, gIf_def, gTest_def, gNot_def, gAnd_def, gOr_def, gAndV_def, gOrV_def, gNotV_def, gCB_def, asB_b, hAdd_i, hSub_i, hLt_i, hLe_i, hGt_i, hGe_i, hMul_r, hMul_l, hMod_i, hDiv_s, hBand_i, hShr_i, hPow_10_18, hPow_10_27, hPow_10_28, hPow_10_29, hPow_10_30, hEq_i, hNe_i, hLen_l, hLen_t, hMin2_i, hMax2_i, hMin3_i, hInt1_b, hInt1_i, hBits_i, hListOf_l, hListOf_t, hTupOf_l, hTupOf_t, gSeqS_def, gSet_def, gRet_def, gIfS_def, gNext_def, gTup_def, gLst_def, List.getElem?_cons_zero, List.getElem?_cons_succ, List.set_cons_zero, List.set_cons_succ, List.length_cons, List.length_nil, Nat.zero_add, Nat.reduceAdd, Nat.reduceLeDiff, Nat.reduceSub, Nat.reduceMul, if_true, if_false, Bool.false_eq_true, List.replicate_succ, List.replicate_zero, List.cons_append, List.nil_append, tgN, tgT, tgCons, tgNil, Int.reducePow, Int.reduceAdd, Int.reduceSub, Int.reduceMul, decide_true, decide_false, Bool.not_true, Bool.not_false, gChain_def, hIsa_int, hIsa_intb, hIsa_list, hIsa_tuple, gDrop_def, List.length_map, hmod, hix]
        refine seq_step (gApp_l (ds := w.map .int) (d := .int u.1) rfl rfl (by rw [List.length_map]; omega)) ?_
        dsimp only [List.set]
        refine (set_ok (d := .int (u.2.1 + u.2.2 - p)) rfl).trans ?_
        dsimp only [List.set]
        rw [List.map_append]
        rfl)
  refine ⟨w, fnL_rt ?_, by omega⟩
  show g_l_went [.list (ts.map enc3), .int a, .int b, .list (N.map .int), .list (U.map .int), .none, .none, .none, .none, .none, .none, .none, .none] = _
  unfold g_l_went
  refine seq_step (set_ok (d := .list (([] : List Int).map .int)) (by rfl)) ?_
  dsimp only [List.set]
  refine seq_step (set_ok (d := .int a) (by rfl)) ?_
  dsimp only [List.set]
  refine seq_step (for_ok (ds := N.map .int) (seqG_l rfl) hf) ?_
  refine ret_ok ?_
  rw [gPurV_def, gPurN_def]
  simp only [gVar_def, List.getElem?_cons_zero, List.getElem?_cons_succ, bnd_ok]
  exact if_pos (pureA_ints w)
theorem dd_len {α : Type} [DecidableEq α] : ∀ xs : List α, (dd xs).length ≤ xs.length
  | [] => Nat.le_refl _
  | x :: xs => by
    have := dd_len xs
    unfold dd
    split
    · rw [List.length_cons]; omega
    · rw [List.length_cons, List.length_cons]; omega
theorem iset_len (xs : List Int) : (iset xs).length ≤ xs.length := by
  unfold iset
  rw [(isort_perm _).length_eq]
  exact dd_len xs
theorem pure1_t (xs : List Int) : pure1 (.tuple (xs.map .int)) = true := by
  unfold pure1
  exact pureA_ints xs
theorem lside_ok {n : Int} (n1 : 1 ≤ n) (n10 : n ≤ 10) (a b : Int) {N : List Int} (hN : N.length = 2) :
    ∃ S : List Int, f_l_side [.int n, .int a, .int b, .list (N.map .int)] = .ok (.tuple (S.map .int)) ∧ S.length < 64 := by
  have i0 := hIx_ints (xs := N) (i := 0) (by omega) (by omega)
  have i1 := hIx_ints (xs := N) (i := 1) (by omega) (by omega)
  generalize N[(0 : Int).toNat]'(by omega) = y0 at i0
  generalize N[(1 : Int).toNat]'(by omega) = y1 at i1
  have hr : gRng1 (gCons (gVar 0) (gNil)) [.int n, .int a, .int b, .list (N.map .int), .none, .none, .none] = .ok ((List.range n.toNat).map fun (i : Nat) => PyData.int (i : Int)) := by
    refine (rng1_ok (by rfl) (by omega) (by omega)).trans ?_
    unfold rangeD
    simp
  have hlc := gLc_map (fun (i : Nat) => PyData.int (i : Int)) (fun i => Builtin.bitAnd (y0 / 2 ^ i) 1 == 1) (fun i => PyData.int (i : Int)) (h := tgN 5) (gt := gTest (gOp hEq (gOp hBand (gOp hShr (gOp hIx (gVar 3) (gC (.int (0)))) (gVar 5)) (gC (.int (1)))) (gC (.int (1))))) (ge := gVar 5)
    (xs := List.range n.toNat) hr (by rw [List.length_range]; omega) (fun i _ => ⟨[.int n, .int a, .int b, .list (N.map .int), .none, .int (i : Int), .none], rfl, by
      have s := hShr_i (i := y0) (j := (i : Int)) (by omega)
      rw [Int.toNat_natCast] at s
      simp only [bnd_ok, gVar_def, gC_def, gOp_def, gUn_def, gNil_def, gCons_def, gIf_def, gTest_def, gNot_def, gAnd_def, gOr_def, gAndV_def, gOrV_def, gNotV_def, gCB_def, asB_b, hAdd_i, hSub_i, hLt_i, hLe_i, hGt_i, hGe_i, hMul_r, hMul_l, hMod_i, hDiv_s, hBand_i, hShr_i, hPow_10_18, hPow_10_27, hPow_10_28, hPow_10_29, hPow_10_30, hEq_i, hNe_i, hLen_l, hLen_t, hMin2_i, hMax2_i, hMin3_i, hInt1_b, hInt1_i, hBits_i, hListOf_l, hListOf_t, hTupOf_l, hTupOf_t, gSeqS_def, gSet_def, gRet_def, gIfS_def, gNext_def, gTup_def, gLst_def, List.getElem?_cons_zero, List.getElem?_cons_succ, List.set_cons_zero, List.set_cons_succ, List.length_cons, List.length_nil, Nat.zero_add, Nat.reduceAdd, Nat.reduceLeDiff, Nat.reduceSub, Nat.reduceMul, if_true, if_false, Bool.false_eq_true, List.replicate_succ, List.replicate_zero, List.cons_append, List.nil_append, tgN, tgT, tgCons, tgNil, Int.reducePow, Int.reduceAdd, Int.reduceSub, Int.reduceMul, decide_true, decide_false, Bool.not_true, Bool.not_false, gChain_def, hIsa_int, hIsa_intb, hIsa_list, hIsa_tuple, gDrop_def, i0, s], fun _ => rfl⟩)
  have hF : ((List.range n.toNat).filter fun i => Builtin.bitAnd (y0 / 2 ^ i) 1 == 1).length ≤ 10 := by
    refine Nat.le_trans (List.length_filter_le _ _) ?_
    rw [List.length_range]
    omega
  have hmm : (((List.range n.toNat).filter fun i => Builtin.bitAnd (y0 / 2 ^ i) 1 == 1).map fun (i : Nat) => PyData.int (i : Int)) = (((List.range n.toNat).filter fun i => Builtin.bitAnd (y0 / 2 ^ i) 1 == 1).map fun (i : Nat) => (i : Int)).map PyData.int := by
    rw [List.map_map]
    rfl
  rw [hmm] at hlc
  rw [← List.length_map (f := fun (i : Nat) => (i : Int))] at hF
  generalize ((List.range n.toNat).filter fun i => Builtin.bitAnd (y0 / 2 ^ i) 1 == 1).map (fun (i : Nat) => (i : Int)) = F at hlc hF
  have hm : hMod (.int y1) (.int 8) = .ok (.int (y1 % 8)) := hMod_i (by omega)
  have base : ∀ S : List Int, ∀ G : Gs, G [.int n, .int a, .int b, .list (N.map .int), .list (F.map .int), .none, .int (y1 % 8)] = .ok (.rt (.tuple (S.map .int))) →
      gSeqS (gSet 4 (gLc (gRng1 (gCons (gVar 0) (gNil))) (tgN 5) (gTest (gOp hEq (gOp hBand (gOp hShr (gOp hIx (gVar 3) (gC (.int (0)))) (gVar 5)) (gC (.int (1)))) (gC (.int (1))))) (gVar 5))) (gSeqS (gSet 6 (gOp hMod (gOp hIx (gVar 3) (gC (.int (1)))) (gC (.int (8))))) G) [.int n, .int a, .int b, .list (N.map .int), .none, .none, .none] = .ok (.rt (.tuple (S.map .int))) := fun S G hG => by
    refine seq_step (set_ok hlc) ?_
    dsimp only [List.set]
    refine seq_step (set_ok (d := .int (y1 % 8)) ?_) hG
    simp only [bnd_ok, gVar_def, gC_def, gOp_def, gUn_def, gNil_def, gCons_def, gIf_def, gTest_def, gNot_def, gAnd_def, gOr_def, gAndV_def, gOrV_def, gNotV_def, gCB_def, asB_b, hAdd_i, hSub_i, hLt_i, hLe_i, hGt_i, hGe_i, hMul_r, hMul_l, hMod_i, hDiv_s, hBand_i, hShr_i, hPow_10_18, hPow_10_27, hPow_10_28, hPow_10_29, hPow_10_30, hEq_i, hNe_i, hLen_l, hLen_t, hMin2_i, hMax2_i, hMin3_i, hInt1_b, hInt1_i, hBits_i, hListOf_l, hListOf_t, hTupOf_l, hTupOf_t, gSeqS_def, gSet_def, gRet_def, gIfS_def, gNext_def, gTup_def, gLst_def, List.getElem?_cons_zero, List.getElem?_cons_succ, List.set_cons_zero, List.set_cons_succ, List.length_cons, List.length_nil, Nat.zero_add, Nat.reduceAdd, Nat.reduceLeDiff, Nat.reduceSub, Nat.reduceMul, if_true, if_false, Bool.false_eq_true, List.replicate_succ, List.replicate_zero, List.cons_append, List.nil_append, tgN, tgT, tgCons, tgNil, Int.reducePow, Int.reduceAdd, Int.reduceSub, Int.reduceMul, decide_true, decide_false, Bool.not_true, Bool.not_false, gChain_def, hIsa_int, hIsa_intb, hIsa_list, hIsa_tuple, gDrop_def, i1, hm]
  by_cases c5 : y1 % 8 < 5
  · have hlc2 := gLc_map PyData.int (fun p => !(p == b)) PyData.int (gi := gSeq (gVar 4)) (h := tgN 5) (gt := gTest (gOp hNe (gVar 5) (gVar 2))) (ge := gVar 5)
      (ρ := [.int n, .int a, .int b, .list (N.map .int), .list (F.map .int), .none, .int (y1 % 8)]) (xs := F) rfl (by omega) (fun p _ => ⟨_, rfl, by simp only [bnd_ok, gVar_def, gC_def, gOp_def, gUn_def, gNil_def, gCons_def, gIf_def, gTest_def, gNot_def, gAnd_def, gOr_def, gAndV_def, gOrV_def, gNotV_def, gCB_def, asB_b, hAdd_i, hSub_i, hLt_i, hLe_i, hGt_i, hGe_i, hMul_r, hMul_l, hMod_i, hDiv_s, hBand_i, hShr_i, hPow_10_18, hPow_10_27, hPow_10_28, hPow_10_29, hPow_10_30, hEq_i, hNe_i, hLen_l, hLen_t, hMin2_i, hMax2_i, hMin3_i, hInt1_b, hInt1_i, hBits_i, hListOf_l, hListOf_t, hTupOf_l, hTupOf_t, gSeqS_def, gSet_def, gRet_def, gIfS_def, gNext_def, gTup_def, gLst_def, List.getElem?_cons_zero, List.getElem?_cons_succ, List.set_cons_zero, List.set_cons_succ, List.length_cons, List.length_nil, Nat.zero_add, Nat.reduceAdd, Nat.reduceLeDiff, Nat.reduceSub, Nat.reduceMul, if_true, if_false, Bool.false_eq_true, List.replicate_succ, List.replicate_zero, List.cons_append, List.nil_append, tgN, tgT, tgCons, tgNil, Int.reducePow, Int.reduceAdd, Int.reduceSub, Int.reduceMul, decide_true, decide_false, Bool.not_true, Bool.not_false, gChain_def, hIsa_int, hIsa_intb, hIsa_list, hIsa_tuple, gDrop_def], fun _ => rfl⟩)
    have hF2 : (F.filter fun p => !(p == b)).length ≤ 10 := Nat.le_trans (List.length_filter_le _ _) hF
    generalize (F.filter fun p => !(p == b)) = F2 at *
    have hcat := hCat_map PyData.int F2 [a] (by rw [List.length_singleton]; omega)
    have hl2 : (F2 ++ [a]).length ≤ 11 := by rw [List.length_append, List.length_singleton]; omega
    have hlen := iset_len (F2 ++ [a])
    refine ⟨iset (F2 ++ [a]), fnN_rt (base _ _ ?_), by omega⟩
    refine seq_rt ((if_t (by simp only [bnd_ok, gVar_def, gC_def, gOp_def, gUn_def, gNil_def, gCons_def, gIf_def, gTest_def, gNot_def, gAnd_def, gOr_def, gAndV_def, gOrV_def, gNotV_def, gCB_def, asB_b, hAdd_i, hSub_i, hLt_i, hLe_i, hGt_i, hGe_i, hMul_r, hMul_l, hMod_i, hDiv_s, hBand_i, hShr_i, hPow_10_18, hPow_10_27, hPow_10_28, hPow_10_29, hPow_10_30, hEq_i, hNe_i, hLen_l, hLen_t, hMin2_i, hMax2_i, hMin3_i, hInt1_b, hInt1_i, hBits_i, hListOf_l, hListOf_t, hTupOf_l, hTupOf_t, gSeqS_def, gSet_def, gRet_def, gIfS_def, gNext_def, gTup_def, gLst_def, List.getElem?_cons_zero, List.getElem?_cons_succ, List.set_cons_zero, List.set_cons_succ, List.length_cons, List.length_nil, Nat.zero_add, Nat.reduceAdd, Nat.reduceLeDiff, Nat.reduceSub, Nat.reduceMul, if_true, if_false, Bool.false_eq_true, List.replicate_succ, List.replicate_zero, List.cons_append, List.nil_append, tgN, tgT, tgCons, tgNil, Int.reducePow, Int.reduceAdd, Int.reduceSub, Int.reduceMul, decide_true, decide_false, Bool.not_true, Bool.not_false, gChain_def, hIsa_int, hIsa_intb, hIsa_list, hIsa_tuple, gDrop_def, decide_eq_true c5])).trans ?_)
    refine seq_step (set_ok (d := .list ((F2 ++ [a]).map .int)) ?_) ?_
    · rw [gOp_def, hlc2]
      exact hcat
    dsimp only [List.set]
    refine ret_ok ?_
    have hs : hSortSetI (.list ((F2 ++ [a]).map .int)) = .ok (.list ((iset (F2 ++ [a])).map .int)) := by
      unfold hSortSetI
      simp only [allI_map]
      rw [if_pos (by omega)]
    simp only [bnd_ok, gVar_def, gC_def, gOp_def, gUn_def, gNil_def, gCons_def, gIf_def, gTest_def, gNot_def, gAnd_def, gOr_def, gAndV_def, gOrV_def, gNotV_def, gCB_def, asB_b, hAdd_i, hSub_i, hLt_i, hLe_i, hGt_i, hGe_i, hMul_r, hMul_l, hMod_i, hDiv_s, hBand_i, hShr_i, hPow_10_18, hPow_10_27, hPow_10_28, hPow_10_29, hPow_10_30, hEq_i, hNe_i, hLen_l, hLen_t, hMin2_i, hMax2_i, hMin3_i, hInt1_b, hInt1_i, hBits_i, hListOf_l, hListOf_t, hTupOf_l, hTupOf_t, gSeqS_def, gSet_def, gRet_def, gIfS_def, gNext_def, gTup_def, gLst_def, List.getElem?_cons_zero, List.getElem?_cons_succ, List.set_cons_zero, List.set_cons_succ, List.length_cons, List.length_nil, Nat.zero_add, Nat.reduceAdd, Nat.reduceLeDiff, Nat.reduceSub, Nat.reduceMul, if_true, if_false, Bool.false_eq_true, List.replicate_succ, List.replicate_zero, List.cons_append, List.nil_append, tgN, tgT, tgCons, tgNil, Int.reducePow, Int.reduceAdd, Int.reduceSub, Int.reduceMul, decide_true, decide_false, Bool.not_true, Bool.not_false, gChain_def, hIsa_int, hIsa_intb, hIsa_list, hIsa_tuple, gDrop_def, hs]
  · by_cases c6 : y1 % 8 = 5
    · have hcat := hCat_map PyData.int F.reverse [a] (by rw [List.length_reverse, List.length_singleton]; omega)
      refine ⟨F.reverse ++ [a], fnN_rt (base _ _ ?_), by rw [List.length_append, List.length_reverse, List.length_singleton]; omega⟩
      refine seq_step ((if_f (by simp only [bnd_ok, gVar_def, gC_def, gOp_def, gUn_def, gNil_def, gCons_def, gIf_def, gTest_def, gNot_def, gAnd_def, gOr_def, gAndV_def, gOrV_def, gNotV_def, gCB_def, asB_b, hAdd_i, hSub_i, hLt_i, hLe_i, hGt_i, hGe_i, hMul_r, hMul_l, hMod_i, hDiv_s, hBand_i, hShr_i, hPow_10_18, hPow_10_27, hPow_10_28, hPow_10_29, hPow_10_30, hEq_i, hNe_i, hLen_l, hLen_t, hMin2_i, hMax2_i, hMin3_i, hInt1_b, hInt1_i, hBits_i, hListOf_l, hListOf_t, hTupOf_l, hTupOf_t, gSeqS_def, gSet_def, gRet_def, gIfS_def, gNext_def, gTup_def, gLst_def, List.getElem?_cons_zero, List.getElem?_cons_succ, List.set_cons_zero, List.set_cons_succ, List.length_cons, List.length_nil, Nat.zero_add, Nat.reduceAdd, Nat.reduceLeDiff, Nat.reduceSub, Nat.reduceMul, if_true, if_false, Bool.false_eq_true, List.replicate_succ, List.replicate_zero, List.cons_append, List.nil_append, tgN, tgT, tgCons, tgNil, Int.reducePow, Int.reduceAdd, Int.reduceSub, Int.reduceMul, decide_true, decide_false, Bool.not_true, Bool.not_false, gChain_def, hIsa_int, hIsa_intb, hIsa_list, hIsa_tuple, gDrop_def, decide_eq_false c5])).trans rfl) ?_
      refine seq_rt ((if_t (by simp only [bnd_ok, gVar_def, gC_def, gOp_def, gUn_def, gNil_def, gCons_def, gIf_def, gTest_def, gNot_def, gAnd_def, gOr_def, gAndV_def, gOrV_def, gNotV_def, gCB_def, asB_b, hAdd_i, hSub_i, hLt_i, hLe_i, hGt_i, hGe_i, hMul_r, hMul_l, hMod_i, hDiv_s, hBand_i, hShr_i, hPow_10_18, hPow_10_27, hPow_10_28, hPow_10_29, hPow_10_30, hEq_i, hNe_i, hLen_l, hLen_t, hMin2_i, hMax2_i, hMin3_i, hInt1_b, hInt1_i, hBits_i, hListOf_l, hListOf_t, hTupOf_l, hTupOf_t, gSeqS_def, gSet_def, gRet_def, gIfS_def, gNext_def, gTup_def, gLst_def, List.getElem?_cons_zero, List.getElem?_cons_succ, List.set_cons_zero, List.set_cons_succ, List.length_cons, List.length_nil, Nat.zero_add, Nat.reduceAdd, Nat.reduceLeDiff, Nat.reduceSub, Nat.reduceMul, if_true, if_false, Bool.false_eq_true, List.replicate_succ, List.replicate_zero, List.cons_append, List.nil_append, tgN, tgT, tgCons, tgNil, Int.reducePow, Int.reduceAdd, Int.reduceSub, Int.reduceMul, decide_true, decide_false, Bool.not_true, Bool.not_false, gChain_def, hIsa_int, hIsa_intb, hIsa_list, hIsa_tuple, gDrop_def, c6]; rfl)).trans ?_)
      have hrv : hRevL (.list (F.map .int)) = .ok (.list (F.reverse.map .int)) := by
        unfold hRevL
        rw [List.map_reverse]
      refine ret_ok ?_
      have e : gCB (one hTupOf) (gCons (gOp hCat (gUn hRevL (gVar 4)) (gLst (gCons (gVar 1) (gNil)))) (gNil)) [.int n, .int a, .int b, .list (N.map .int), .list (F.map .int), .none, .int (y1 % 8)] = .ok (.tuple ((F.reverse ++ [a]).map .int)) := by
        have hcat : hCat (.list (F.reverse.map .int)) (.list [.int a]) = _ := hcat
        simp only [bnd_ok, gVar_def, gC_def, gOp_def, gUn_def, gNil_def, gCons_def, gIf_def, gTest_def, gNot_def, gAnd_def, gOr_def, gAndV_def, gOrV_def, gNotV_def, gCB_def, asB_b, hAdd_i, hSub_i, hLt_i, hLe_i, hGt_i, hGe_i, hMul_r, hMul_l, hMod_i, hDiv_s, hBand_i, hShr_i, hPow_10_18, hPow_10_27, hPow_10_28, hPow_10_29, hPow_10_30, hEq_i, hNe_i, hLen_l, hLen_t, hMin2_i, hMax2_i, hMin3_i, hInt1_b, hInt1_i, hBits_i, hListOf_l, hListOf_t, hTupOf_l, hTupOf_t, gSeqS_def, gSet_def, gRet_def, gIfS_def, gNext_def, gTup_def, gLst_def, List.getElem?_cons_zero, List.getElem?_cons_succ, List.set_cons_zero, List.set_cons_succ, List.length_cons, List.length_nil, Nat.zero_add, Nat.reduceAdd, Nat.reduceLeDiff, Nat.reduceSub, Nat.reduceMul, if_true, if_false, Bool.false_eq_true, List.replicate_succ, List.replicate_zero, List.cons_append, List.nil_append, tgN, tgT, tgCons, tgNil, Int.reducePow, Int.reduceAdd, Int.reduceSub, Int.reduceMul, decide_true, decide_false, Bool.not_true, Bool.not_false, gChain_def, hIsa_int, hIsa_intb, hIsa_list, hIsa_tuple, gDrop_def, hrv, hcat]
      rw [gPur_def, e, bnd_ok]
      exact if_pos (pure1_t _)
    · have hq : y1 % 8 - 6 = 0 ∨ y1 % 8 - 6 = 1 := by omega
      have hrep := hRep_l (xs := [PyData.int n]) (k := y1 % 8 - 6) (by omega) (by omega) (by simp)
      have hfl : (List.replicate (y1 % 8 - 6).toNat [PyData.int n]).flatten = (List.replicate (y1 % 8 - 6).toNat n).map .int := by
        rcases hq with h | h <;> rw [h] <;> rfl
      rw [hfl] at hrep
      have hcat := hCat_map PyData.int F (List.replicate (y1 % 8 - 6).toNat n) (by rw [List.length_replicate]; omega)
      refine ⟨F ++ List.replicate (y1 % 8 - 6).toNat n, fnN_rt (base _ _ ?_), by rw [List.length_append, List.length_replicate]; omega⟩
      refine seq_step ((if_f (by simp only [bnd_ok, gVar_def, gC_def, gOp_def, gUn_def, gNil_def, gCons_def, gIf_def, gTest_def, gNot_def, gAnd_def, gOr_def, gAndV_def, gOrV_def, gNotV_def, gCB_def, asB_b, hAdd_i, hSub_i, hLt_i, hLe_i, hGt_i, hGe_i, hMul_r, hMul_l, hMod_i, hDiv_s, hBand_i, hShr_i, hPow_10_18, hPow_10_27, hPow_10_28, hPow_10_29, hPow_10_30, hEq_i, hNe_i, hLen_l, hLen_t, hMin2_i, hMax2_i, hMin3_i, hInt1_b, hInt1_i, hBits_i, hListOf_l, hListOf_t, hTupOf_l, hTupOf_t, gSeqS_def, gSet_def, gRet_def, gIfS_def, gNext_def, gTup_def, gLst_def, List.getElem?_cons_zero, List.getElem?_cons_succ, List.set_cons_zero, List.set_cons_succ, List.length_cons, List.length_nil, Nat.zero_add, Nat.reduceAdd, Nat.reduceLeDiff, Nat.reduceSub, Nat.reduceMul, if_true, if_false, Bool.false_eq_true, List.replicate_succ, List.replicate_zero, List.cons_append, List.nil_append, tgN, tgT, tgCons, tgNil, Int.reducePow, Int.reduceAdd, Int.reduceSub, Int.reduceMul, decide_true, decide_false, Bool.not_true, Bool.not_false, gChain_def, hIsa_int, hIsa_intb, hIsa_list, hIsa_tuple, gDrop_def, decide_eq_false c5])).trans rfl) ?_
      refine seq_step ((if_f (by simp only [bnd_ok, gVar_def, gC_def, gOp_def, gUn_def, gNil_def, gCons_def, gIf_def, gTest_def, gNot_def, gAnd_def, gOr_def, gAndV_def, gOrV_def, gNotV_def, gCB_def, asB_b, hAdd_i, hSub_i, hLt_i, hLe_i, hGt_i, hGe_i, hMul_r, hMul_l, hMod_i, hDiv_s, hBand_i, hShr_i, hPow_10_18, hPow_10_27, hPow_10_28, hPow_10_29, hPow_10_30, hEq_i, hNe_i, hLen_l, hLen_t, hMin2_i, hMax2_i, hMin3_i, hInt1_b, hInt1_i, hBits_i, hListOf_l, hListOf_t, hTupOf_l, hTupOf_t, gSeqS_def, gSet_def, gRet_def, gIfS_def, gNext_def, gTup_def, gLst_def, List.getElem?_cons_zero, List.getElem?_cons_succ, List.set_cons_zero, List.set_cons_succ, List.length_cons, List.length_nil, Nat.zero_add, Nat.reduceAdd, Nat.reduceLeDiff, Nat.reduceSub, Nat.reduceMul, if_true, if_false, Bool.false_eq_true, List.replicate_succ, List.replicate_zero, List.cons_append, List.nil_append, tgN, tgT, tgCons, tgNil, Int.reducePow, Int.reduceAdd, Int.reduceSub, Int.reduceMul, decide_true, decide_false, Bool.not_true, Bool.not_false, gChain_def, hIsa_int, hIsa_intb, hIsa_list, hIsa_tuple, gDrop_def, beq_eq_false_iff_ne.mpr c6])).trans rfl) ?_
      refine ret_ok ?_
      have e : gCB (one hTupOf) (gCons (gOp hCat (gVar 4) (gOp hRep (gLst (gCons (gVar 0) (gNil))) (gOp hSub (gVar 6) (gC (.int (6)))))) (gNil)) [.int n, .int a, .int b, .list (N.map .int), .list (F.map .int), .none, .int (y1 % 8)] = .ok (.tuple ((F ++ List.replicate (y1 % 8 - 6).toNat n).map .int)) := by
        simp only [bnd_ok, gVar_def, gC_def, gOp_def, gUn_def, gNil_def, gCons_def, gIf_def, gTest_def, gNot_def, gAnd_def, gOr_def, gAndV_def, gOrV_def, gNotV_def, gCB_def, asB_b, hAdd_i, hSub_i, hLt_i, hLe_i, hGt_i, hGe_i, hMul_r, hMul_l, hMod_i, hDiv_s, hBand_i, hShr_i, hPow_10_18, hPow_10_27, hPow_10_28, hPow_10_29, hPow_10_30, hEq_i, hNe_i, hLen_l, hLen_t, hMin2_i, hMax2_i, hMin3_i, hInt1_b, hInt1_i, hBits_i, hListOf_l, hListOf_t, hTupOf_l, hTupOf_t, gSeqS_def, gSet_def, gRet_def, gIfS_def, gNext_def, gTup_def, gLst_def, List.getElem?_cons_zero, List.getElem?_cons_succ, List.set_cons_zero, List.set_cons_succ, List.length_cons, List.length_nil, Nat.zero_add, Nat.reduceAdd, Nat.reduceLeDiff, Nat.reduceSub, Nat.reduceMul, if_true, if_false, Bool.false_eq_true, List.replicate_succ, List.replicate_zero, List.cons_append, List.nil_append, tgN, tgT, tgCons, tgNil, Int.reducePow, Int.reduceAdd, Int.reduceSub, Int.reduceMul, decide_true, decide_false, Bool.not_true, Bool.not_false, gChain_def, hIsa_int, hIsa_intb, hIsa_list, hIsa_tuple, gDrop_def, hrep, hcat]
      rw [gPur_def, e, bnd_ok]
      exact if_pos (pure1_t _)
end K58
end T_K58H

section T_K58I
set_option linter.all false
set_option maxRecDepth 100000
set_option maxHeartbeats 4000000
/-! K58I: the list of papers. -/
namespace K58
open PySem Sim FamA K59

theorem hRep_01 (w : List Int) (c : Bool) (hw : w.length ≤ 1000) : ∃ w' : List Int, hRep (.list (w.map .int)) (.int (if c then 1 else 0)) = .ok (.list (w'.map .int)) ∧ w'.length ≤ w.length := by
  cases c with
  | false => exact ⟨[], (hRep_l (by simp) (by simp) (by rw [List.length_map]; exact hw)).trans (by rfl), Nat.zero_le _⟩
  | true =>
    refine ⟨w, (hRep_l (by simp) (by simp) (by rw [List.length_map]; exact hw)).trans ?_, Nat.le_refl _⟩
    simp
noncomputable def lpW : Gd := gCallN 5 f_l_went (gCons (gVar 8) (gCons (gVar 3) (gCons (gVar 4) (gCons (gSl hSl (gVar 2) (gPart (gOp hAdd (gC (.int (6))) (gVar 11))) (gPart (gOp hAdd (gC (.int (14))) (gVar 11)))) (gCons (gVar 10) (gNil))))))
theorem loop_ok {n a b t : Int} {r : List T3} {N : List Int} {x5 : Int} (ho : r.Pairwise fun s t => s.1 < t.1) (hl : r.length ≤ 60) (hN : N.length = 17) (h5 : hIx (.list (N.map .int)) (.int 5) = .ok (.int x5)) (d0 d1 d5 d6 d11 d12 d13 d14 d15 d16 d17 d18 d19 d20 d21 : Dt) :
    ∃ (WS : List (List Int)) (U : List Int) (y11 y12 : Dt), gFor (gRng1 (gCons (gOp hMod (gOp hIx (gVar 2) (gC (.int (5)))) (gC (.int (4)))) (gNil))) (tgN 11) g_l_papers_L1
      [d0, d1, .list (N.map .int), .int a, .int b, d5, d6, .int t, .list ((since t r).map enc3), .list (([] : List (List Int)).map encI), .list (([] : List Int).map .int), d11, d12, d13, d14, d15, d16, d17, d18, d19, d20, d21]
      = .ok (.nx [d0, d1, .list (N.map .int), .int a, .int b, d5, d6, .int t, .list ((since t r).map enc3), .list (WS.map encI), .list (U.map .int), y11, y12, d13, d14, d15, d16, d17, d18, d19, d20, d21]) ∧ WS.length ≤ 3 ∧ WS.flatten.length ≤ 24 := by
  have ho2 := since_ord ho t
  have hl2 : (since t r).length ≤ 60 := Nat.le_trans (since_len r t) hl
  have hm4 : hMod (.int x5) (.int 4) = .ok (.int (x5 % 4)) := hMod_i (by omega)
  have hd4 : hDiv (.int x5) (.int 4) = .ok (.int (x5 / 4)) := hDiv_s (by omega) (by omega)
  have hd16 : hDiv (.int x5) (.int 16) = .ok (.int (x5 / 16)) := hDiv_s (by omega) (by omega)
  have hm44 : hMod (.int (x5 / 4)) (.int 4) = .ok (.int (x5 / 4 % 4)) := hMod_i (by omega)
  have hm164 : hMod (.int (x5 / 16)) (.int 4) = .ok (.int (x5 / 16 % 4)) := hMod_i (by omega)
  generalize hR : since t r = R at *
  have hr : gRng1 (gCons (gOp hMod (gOp hIx (gVar 2) (gC (.int (5)))) (gC (.int (4)))) (gNil)) [d0, d1, .list (N.map .int), .int a, .int b, d5, d6, .int t, .list (R.map enc3), .list (([] : List (List Int)).map encI), .list (([] : List Int).map .int), d11, d12, d13, d14, d15, d16, d17, d18, d19, d20, d21] = .ok ((List.range (x5 % 4).toNat).map fun (i : Nat) => PyData.int (i : Int)) := by
    refine (rng1_ok (j := x5 % 4) (by simp only [bnd_ok, gVar_def, gC_def, gOp_def, gUn_def, gNil_def, gCons_def, gIf_def, gTest_def, gNot_def, gAnd_def, gOr_def, gAndV_def, gOrV_def, gNotV_def, gCB_def, asB_b, hAdd_i, hSub_i, hLt_i, hLe_i, hGt_i, hGe_i, hMul_r, hMul_l, hMod_i, hDiv_s, hBand_i, hShr_i, hPow_10_18, hPow_10_27, hPow_10_28, hPow_10_29, hPow_10_30, hEq_i, hNe_i, hLen_l, hLen_t, hMin2_i, hMax2_i, hMin3_i, hInt1_b, hInt1_i, hBits_i, hListOf_l, hListOf_t, hTupOf_l, hTupOf_t, gSeqS_def, gSet_def, gRet_def, gIfS_def, gNext_def, gTup_def, gLst_def, List.getElem?_cons_zero, List.getElem?_cons_succ, List.set_cons_zero, List.set_cons_succ, List.length_cons, List.length_nil, Nat.zero_add, Nat.reduceAdd, Nat.reduceLeDiff, Nat.reduceSub, Nat.reduceMul, if_true, if_false, Bool.false_eq_true, List.replicate_succ, List.replicate_zero, List.cons_append, List.nil_append, tgN, tgT, tgCons, tgNil, Int.reducePow, Int.reduceAdd, Int.reduceSub, Int.reduceMul, decide_true, decide_false, Bool.not_true, Bool.not_false, gChain_def, hIsa_int, hIsa_intb, hIsa_list, hIsa_tuple, gDrop_def, h5, hm4]) (by omega) (by omega)).trans ?_
    unfold rangeD
    simp
  obtain ⟨ρ', hf, WS, U, y11, y12, rfl, h1, h2, h3⟩ := forE_ix (fun (i : Nat) => PyData.int (i : Int)) (h := tgN 11) (b := g_l_papers_L1) (List.range (x5 % 4).toNat)
    (fun i ρ => ∃ (WS : List (List Int)) (U : List Int) (y11 y12 : Dt), ρ = [d0, d1, .list (N.map .int), .int a, .int b, d5, d6, .int t, .list (R.map enc3), .list (WS.map encI), .list (U.map .int), y11, y12, d13, d14, d15, d16, d17, d18, d19, d20, d21] ∧ WS.length ≤ i ∧ WS.flatten.length ≤ 8 * i ∧ U.length ≤ 8 * i)
    (ρ := [d0, d1, .list (N.map .int), .int a, .int b, d5, d6, .int t, .list (R.map enc3), .list (([] : List (List Int)).map encI), .list (([] : List Int).map .int), d11, d12, d13, d14, d15, d16, d17, d18, d19, d20, d21]) ⟨[], [], _, _, rfl, by simp, by simp, by simp⟩ (by
      rintro i ρ hi ⟨WS, U, y11, y12, rfl, h1, h2, h3⟩
      have hi3 : i < 3 := by rw [List.length_range] at hi; omega
      rw [List.getElem_range]
      have hs := hSl_ij (xs := N) (i := 6 + (i : Int)) (j := 14 + (i : Int)) (by omega) (by omega) (by omega)
      have hsl : ((N.drop (6 + (i : Int)).toNat).take ((14 + (i : Int)).toNat - (6 + (i : Int)).toNat)).length ≤ 8 := by
        rw [List.length_take]
        omega
      generalize ((N.drop (6 + (i : Int)).toNat).take ((14 + (i : Int)).toNat - (6 + (i : Int)).toNat)) = M at *
      obtain ⟨w, hw, hwl⟩ := went_ok (ts := R) hl2 a b (N := M) (U := U) hsl (by omega)
      obtain ⟨w', hrep, hw'⟩ := hRep_01 w (!(x5 / 16 % 4 == 1)) (by omega)
      have cw : lpW [d0, d1, .list (N.map .int), .int a, .int b, d5, d6, .int t, .list (R.map enc3), .list (WS.map encI), .list (U.map .int), .int (i : Nat), y12, d13, d14, d15, d16, d17, d18, d19, d20, d21] = .ok (.list (w.map .int)) := by
        refine callN_ok (ds := [.list (R.map enc3), .int a, .int b, .list (M.map .int), .list (U.map .int)]) ?_ rfl hw
        simp only [bnd_ok, gVar_def, gC_def, gOp_def, gUn_def, gNil_def, gCons_def, gIf_def, gTest_def, gNot_def, gAnd_def, gOr_def, gAndV_def, gOrV_def, gNotV_def, gCB_def, asB_b, hAdd_i, hSub_i, hLt_i, hLe_i, hGt_i, hGe_i, hMul_r, hMul_l, hMod_i, hDiv_s, hBand_i, hShr_i, hPow_10_18, hPow_10_27, hPow_10_28, hPow_10_29, hPow_10_30, hEq_i, hNe_i, hLen_l, hLen_t, hMin2_i, hMax2_i, hMin3_i, hInt1_b, hInt1_i, hBits_i, hListOf_l, hListOf_t, hTupOf_l, hTupOf_t, gSeqS_def, gSet_def, gRet_def, gIfS_def, gNext_def, gTup_def, gLst_def, List.getElem?_cons_zero, List.getElem?_cons_succ, List.set_cons_zero, List.set_cons_succ, List.length_cons, List.length_nil, Nat.zero_add, Nat.reduceAdd, Nat.reduceLeDiff, Nat.reduceSub, Nat.reduceMul, if_true, if_false, Bool.false_eq_true, List.replicate_succ, List.replicate_zero, List.cons_append, List.nil_append, tgN, tgT, tgCons, tgNil, Int.reducePow, Int.reduceAdd, Int.reduceSub, Int.reduceMul, decide_true, decide_false, Bool.not_true, Bool.not_false, gChain_def, hIsa_int, hIsa_intb, hIsa_list, hIsa_tuple, gDrop_def, gCallN_def, gAsg_def, gSl_def, gNoPart_def, gPart_def, hSl_from', hSl_to', hs]
      have cl : gCallN 4 f_l_leads (gCons (gVar 8) (gCons (gVar 3) (gCons (gVar 4) (gCons (gVar 12) (gNil))))) [d0, d1, .list (N.map .int), .int a, .int b, d5, d6, .int t, .list (R.map enc3), .list (WS.map encI), .list (U.map .int), .int (i : Nat), .list (w.map .int), d13, d14, d15, d16, d17, d18, d19, d20, d21] = .ok (.bool (leadB R a b w)) :=
        callN_ok (ds := [.list (R.map enc3), .int a, .int b, .list (w.map .int)]) rfl rfl (leads_ok ho2 hl2 a b w)
      have ct : gOr (gTest (gCallN 4 f_l_leads (gCons (gVar 8) (gCons (gVar 3) (gCons (gVar 4) (gCons (gVar 12) (gNil))))))) (gTest (gOp hEq (gOp hMod (gOp hDiv (gOp hIx (gVar 2) (gC (.int (5)))) (gC (.int (4)))) (gC (.int (4)))) (gC (.int (1))))) [d0, d1, .list (N.map .int), .int a, .int b, d5, d6, .int t, .list (R.map enc3), .list (WS.map encI), .list (U.map .int), .int (i : Nat), .list (w.map .int), d13, d14, d15, d16, d17, d18, d19, d20, d21] = .ok (leadB R a b w || (x5 / 4 % 4 == 1)) := by
        have q : gTest (gOp hEq (gOp hMod (gOp hDiv (gOp hIx (gVar 2) (gC (.int (5)))) (gC (.int (4)))) (gC (.int (4)))) (gC (.int (1)))) [d0, d1, .list (N.map .int), .int a, .int b, d5, d6, .int t, .list (R.map enc3), .list (WS.map encI), .list (U.map .int), .int (i : Nat), .list (w.map .int), d13, d14, d15, d16, d17, d18, d19, d20, d21] = .ok (x5 / 4 % 4 == 1) := by simp only [bnd_ok, gVar_def, gC_def, gOp_def, gUn_def, gNil_def, gCons_def, gIf_def, gTest_def, gNot_def, gAnd_def, gOr_def, gAndV_def, gOrV_def, gNotV_def, gCB_def, asB_b, hAdd_i, hSub_i, hLt_i, hLe_i, hGt_i, hGe_i, hMul_r, hMul_l, hMod_i, hDiv_s, hBand_i, hShr_i, hPow_10_18, hPow_10_27, hPow_10_28, hPow_10_29, hPow_10_30, hEq_i, hNe_i, hLen_l, hLen_t, hMin2_i, hMax2_i, hMin3_i, hInt1_b, hInt1_i, hBits_i, hListOf_l, hListOf_t, hTupOf_l, hTupOf_t, gSeqS_def, gSet_def, gRet_def, gIfS_def, gNext_def, gTup_def, gLst_def, List.getElem?_cons_zero, List.getElem?_cons_succ, List.set_cons_zero, List.set_cons_succ, List.length_cons, List.length_nil, Nat.zero_add, Nat.reduceAdd, Nat.reduceLeDiff, Nat.reduceSub, Nat.reduceMul, if_true, if_false, Bool.false_eq_true, List.replicate_succ, List.replicate_zero, List.cons_append, List.nil_append, tgN, tgT, tgCons, tgNil, Int.reducePow, Int.reduceAdd, Int.reduceSub, Int.reduceMul, decide_true, decide_false, Bool.not_true, Bool.not_false, gChain_def, hIsa_int, hIsa_intb, hIsa_list, hIsa_tuple, gDrop_def, h5, hd4, hm44]
        rw [gOr_def, gTest_def, cl, q]
        cases leadB R a b w <;> rfl
      have start : ∀ z, gIfS (gOr (gTest (gCallN 4 f_l_leads (gCons (gVar 8) (gCons (gVar 3) (gCons (gVar 4) (gCons (gVar 12) (gNil))))))) (gTest (gOp hEq (gOp hMod (gOp hDiv (gOp hIx (gVar 2) (gC (.int (5)))) (gC (.int (4)))) (gC (.int (4)))) (gC (.int (1)))))) (gSeqS (gApp 9 (gVar 12)) (gSet 10 (gOp hCat (gVar 10) (gOp hRep (gVar 12) (gCB hInt1 (gCons (gOp hNe (gOp hMod (gOp hDiv (gOp hIx (gVar 2) (gC (.int (5)))) (gC (.int (16)))) (gC (.int (4)))) (gC (.int (1)))) (gNil))))))) (gNext) [d0, d1, .list (N.map .int), .int a, .int b, d5, d6, .int t, .list (R.map enc3), .list (WS.map encI), .list (U.map .int), .int (i : Nat), .list (w.map .int), d13, d14, d15, d16, d17, d18, d19, d20, d21] = z →
          g_l_papers_L1 [d0, d1, .list (N.map .int), .int a, .int b, d5, d6, .int t, .list (R.map enc3), .list (WS.map encI), .list (U.map .int), .int (i : Nat), y12, d13, d14, d15, d16, d17, d18, d19, d20, d21] = z := fun z hz => seq_step (set_ok cw) hz
      cases hc : (leadB R a b w || (x5 / 4 % 4 == 1)) with
      | false =>
        rw [hc] at ct
        exact ⟨_, _, rfl, .inl (start _ ((if_f ct).trans rfl)), WS, U, _, _, rfl, by omega, by omega, by omega⟩
      | true =>
        rw [hc] at ct
        refine ⟨_, _, rfl, .inl (start _ ((if_t ct).trans ?_)), WS ++ [w], U ++ w', .int (i : Nat), .list (w.map .int), rfl, by rw [List.length_append, List.length_singleton]; omega, by rw [List.flatten_append, List.length_append, List.flatten_singleton]; omega, by rw [List.length_append]; omega⟩
        refine seq_step (gApp_l (ds := WS.map encI) (d := encI w) rfl rfl (by rw [List.length_map]; omega)) ?_
        dsimp only [List.set]
        have hcat := hCat_map PyData.int U w' (by omega)
        refine (set_ok (d := .list ((U ++ w').map .int)) ?_).trans ?_
        · simp only [bnd_ok, gVar_def, gC_def, gOp_def, gUn_def, gNil_def, gCons_def, gIf_def, gTest_def, gNot_def, gAnd_def, gOr_def, gAndV_def, gOrV_def, gNotV_def, gCB_def, asB_b, hAdd_i, hSub_i, hLt_i, hLe_i, hGt_i, hGe_i, hMul_r, hMul_l, hMod_i, hDiv_s, hBand_i, hShr_i, hPow_10_18, hPow_10_27, hPow_10_28, hPow_10_29, hPow_10_30, hEq_i, hNe_i, hLen_l, hLen_t, hMin2_i, hMax2_i, hMin3_i, hInt1_b, hInt1_i, hBits_i, hListOf_l, hListOf_t, hTupOf_l, hTupOf_t, gSeqS_def, gSet_def, gRet_def, gIfS_def, gNext_def, gTup_def, gLst_def, List.getElem?_cons_zero, List.getElem?_cons_succ, List.set_cons_zero, List.set_cons_succ, List.length_cons, List.length_nil, Nat.zero_add, Nat.reduceAdd, Nat.reduceLeDiff, Nat.reduceSub, Nat.reduceMul, if_true, if_false, Bool.false_eq_true, List.replicate_succ, List.replicate_zero, List.cons_append, List.nil_append, tgN, tgT, tgCons, tgNil, Int.reducePow, Int.reduceAdd, Int.reduceSub, Int.reduceMul, decide_true, decide_false, Bool.not_true, Bool.not_false, gChain_def, hIsa_int, hIsa_intb, hIsa_list, hIsa_tuple, gDrop_def, h5, hd16, hm164, hrep, hcat]
        dsimp only [List.set]
        simp only [List.map_append, List.map_cons, List.map_nil])
  rw [List.length_range] at h1 h2 h3
  exact ⟨WS, U, y11, y12, for_ok hr hf, by omega, by omega⟩
theorem snoc_app {i : Nat} {g : Gd} {ρ : List Dt} {Ps : List Pap} {p : Pap} (h1 : ρ[i]? = some (.list (Ps.map encP))) (h2 : g ρ = .ok (encP p)) (h3 : Ps.length < 1000) : gApp i g ρ = .ok (.nx (ρ.set i (.list ((Ps ++ [p]).map encP)))) := by
  rw [gApp_l h1 h2 (by rw [List.length_map]; omega), List.map_append]
  rfl
theorem tup5 {w : Str} {x1 x2 x3 x4 : Dt} {g1 g2 g3 g4 : Gd} {ρ : List Dt} (h1 : g1 ρ = .ok x1) (h2 : g2 ρ = .ok x2) (h3 : g3 ρ = .ok x3) (h4 : g4 ρ = .ok x4) :
    gTup (gCons (gC (.str w)) (gCons g1 (gCons g2 (gCons g3 (gCons g4 gNil))))) ρ = .ok (.tuple [.str w, x1, x2, x3, x4]) := by
  rw [gTup_def, gCons_def, gC_def, gCons_def, h1, gCons_def, h2, gCons_def, h3, gCons_def, h4]
  rfl
theorem tup3 {w : Str} {x1 x2 : Dt} {g1 g2 : Gd} {ρ : List Dt} (h1 : g1 ρ = .ok x1) (h2 : g2 ρ = .ok x2) :
    gTup (gCons (gC (.str w)) (gCons g1 (gCons g2 gNil))) ρ = .ok (.tuple [.str w, x1, x2]) := by
  rw [gTup_def, gCons_def, gC_def, gCons_def, h1, gCons_def, h2]
  rfl
theorem lst2 {x1 x2 : Dt} {g1 g2 : Gd} {ρ : List Dt} (h1 : g1 ρ = .ok x1) (h2 : g2 ρ = .ok x2) : gLst (gCons g1 (gCons g2 gNil)) ρ = .ok (.list [x1, x2]) := by
  rw [gLst_def, gCons_def, h1, gCons_def, h2]
  rfl
theorem lst3 {x1 x2 x3 : Dt} {g1 g2 g3 : Gd} {ρ : List Dt} (h1 : g1 ρ = .ok x1) (h2 : g2 ρ = .ok x2) (h3 : g3 ρ = .ok x3) : gLst (gCons g1 (gCons g2 (gCons g3 gNil))) ρ = .ok (.list [x1, x2, x3]) := by
  rw [gLst_def, gCons_def, h1, gCons_def, h2, gCons_def, h3]
  rfl
theorem fl_take1 (WS : List (List Int)) : (WS.take 1).flatten.length ≤ WS.flatten.length ∧ (WS.take 1).length ≤ 1 := by
  cases WS with
  | nil => exact ⟨Nat.le_refl _, by simp⟩
  | cons w WS => simp
theorem fl_rev (WS : List (List Int)) : (WS.map List.reverse).flatten.length = WS.flatten.length := by
  induction WS with
  | nil => rfl
  | cons w WS ih => simp [ih]
end K58
end T_K58I

section T_K58J
set_option linter.all false
set_option maxRecDepth 100000
set_option maxHeartbeats 4000000
/-! K58J: the papers, all. -/
namespace K58
open PySem Sim FamA K59

noncomputable def lp13 : Gs := gIfS (gTest (gOp hNe (gVar 13) (gLst (gNil)))) (gSeqS (gSet 14 (gPur (gOp hIx (gVar 13) (gOp hMod (gOp hIx (gVar 2) (gC (.int (6)))) (gCB hLen (gCons (gVar 13) (gNil))))))) (gApp 5 (gTup (gCons (gC (.str "ways")) (gCons (gVar 3) (gCons (gVar 4) (gCons (gVar 7) (gCons (gLst (gCons (gOp hCat (gLst (gCons (gVar 14) (gCons (gVar 14) (gNil)))) (gCallN 5 f_l_went (gCons (gVar 8) (gCons (gVar 3) (gCons (gVar 4) (gCons (gSl hSl (gVar 2) (gPart (gC (.int (6)))) (gPart (gC (.int (14))))) (gCons (gLst (gNil)) (gNil)))))))) (gNil))) (gNil))))))))) (gNext)
noncomputable def lp14 : Gs := gIfS (gTest (gOp hNe (gVar 1) (gLst (gNil)))) (gSeqS (gAsg (gPur (gOp hIx (gVar 1) (gOp hMod (gOp hIx (gVar 2) (gC (.int (16)))) (gCB hLen (gCons (gVar 1) (gNil)))))) (tgT (tgCons (tgN 15) (tgCons (tgN 16) (tgCons (tgN 17) (tgNil)))))) (gSeqS (gSet 18 (gLc (gSeq (gVar 1)) (tgN 6) (gTest (gOp hGt (gOp hIx (gVar 6) (gC (.int (0)))) (gVar 15))) (gVar 6))) (gSeqS (gSet 19 (gCallN 5 f_l_went (gCons (gVar 18) (gCons (gVar 16) (gCons (gVar 17) (gCons (gSl hSl (gVar 2) (gPart (gC (.int (6)))) (gPart (gC (.int (14))))) (gCons (gLst (gNil)) (gNil)))))))) (gSeqS (gSet 20 (gCallN 5 f_l_went (gCons (gVar 18) (gCons (gVar 16) (gCons (gVar 17) (gCons (gSl hSl (gVar 2) (gPart (gC (.int (7)))) (gPart (gC (.int (15))))) (gCons (gVar 19) (gNil)))))))) (gSeqS (gSet 21 (gLc (gSeq (gLst (gCons (gVar 19) (gCons (gVar 20) (gNil))))) (tgN 12) (gTest (gCallN 4 f_l_leads (gCons (gVar 18) (gCons (gVar 16) (gCons (gVar 17) (gCons (gVar 12) (gNil))))))) (gVar 12))) (gSeqS (gSet 5 (gOp hCat (gVar 5) (gLst (gCons (gTup (gCons (gC (.str "out")) (gCons (gVar 15) (gCons (gVar 21) (gNil))))) (gCons (gTup (gCons (gC (.str "out")) (gCons (gVar 15) (gCons (gOp hCat (gSl hSl (gVar 21) (gNoPart) (gPart (gC (.int (1))))) (gLst (gCons (gLst (gCons (gVar 15) (gNil))) (gNil)))) (gNil))))) (gNil)))))) (gSet 5 (gOp hCat (gVar 5) (gLst (gCons (gTup (gCons (gC (.str "out")) (gCons (gOp hAdd (gVar 15) (gC (.int (1)))) (gCons (gVar 21) (gNil))))) (gCons (gTup (gCons (gC (.str "out")) (gCons (gVar 15) (gCons (gLst (gCons (gVar 20) (gNil))) (gNil))))) (gCons (gTup (gCons (gC (.str "out")) (gCons (gVar 15) (gCons (gOp hCat (gVar 21) (gSl hSl (gVar 21) (gNoPart) (gPart (gC (.int (1)))))) (gNil))))) (gNil))))))))))))) (gNext)
theorem sl_N {N : List Int} (hN : N.length = 17) (i j : Int) (h0 : 0 ≤ i) (h1 : i ≤ j) (h2 : j ≤ 17) (h3 : j ≤ i + 8) : ∃ M : List Int, hSl (.list (N.map .int)) (some i) (some j) = .ok (.list (M.map .int)) ∧ M.length ≤ 8 ∧ M.length = j.toNat - i.toNat := by
  refine ⟨_, hSl_ij h0 h1 (by omega), ?_, ?_⟩
  · rw [List.length_take]; omega
  · rw [List.length_take, List.length_drop]; omega
theorem pure1_3 (t : T3) : pure1 (enc3 t) = true := by
  unfold pure1 enc3
  rfl
theorem stC {n a b t : Int} {r : List T3} {N : List Int} (ho : r.Pairwise fun s t => s.1 < t.1) (hl : r.length ≤ 60) (hN : N.length = 17) {Ps : List Pap} (hP : ∀ p ∈ Ps, p.Ok) (hPl : Ps.length ≤ 100) (d6 d8 d9 d10 d11 d12 d13 d14 d15 d16 d17 d18 d19 d20 d21 : Dt) :
    ∃ Ps' : List Pap, (∀ p ∈ Ps', p.Ok) ∧ Ps'.length ≤ 110 ∧ gSeqS lp14 (gRet (gVar 5)) [.int n, .list (r.map enc3), .list (N.map .int), .int a, .int b, .list (Ps.map encP), d6, .int t, d8, d9, d10, d11, d12, d13, d14, d15, d16, d17, d18, d19, d20, d21] = .ok (.rt (.list (Ps'.map encP))) := by
  have tn : gTest (gOp hNe (gVar 1) (gLst (gNil))) [.int n, .list (r.map enc3), .list (N.map .int), .int a, .int b, .list (Ps.map encP), d6, .int t, d8, d9, d10, d11, d12, d13, d14, d15, d16, d17, d18, d19, d20, d21] = .ok (!r.isEmpty) := by
    rw [gTest_def, gOp_def, gLst_nil]
    show bnd (hNe (.list (r.map enc3)) (.list [])) asB = _
    rw [ne_nil]
    rfl
  by_cases hr : r.isEmpty = true
  · rw [hr] at tn
    exact ⟨Ps, hP, by omega, seq_step ((if_f tn).trans rfl) rfl⟩
  have hr : r.isEmpty = false := by simpa using hr
  rw [hr] at tn
  have hpos : 0 < r.length := by
    cases r with
    | nil => cases hr
    | cons x r => simp
  obtain ⟨x16, i16⟩ : ∃ x, hIx (.list (N.map .int)) (.int 16) = .ok (.int x) := ⟨_, hIx_ints (by omega) (by omega)⟩
  have hm0 := Int.emod_nonneg x16 (by omega : (r.length : Int) ≠ 0)
  have hm1 := Int.emod_lt_of_pos x16 (by omega : (0 : Int) < r.length)
  have hix := hIx_l (atI_map enc3 hm0 hm1)
  generalize r[(x16 % (r.length : Int)).toNat]'(by omega) = u at hix
  have hmod : hMod (.int x16) (.int (r.length : Nat)) = .ok (.int (x16 % (r.length : Int))) := hMod_i (by omega)
  obtain ⟨M1, s1, l1, _⟩ := sl_N hN 6 14 (by omega) (by omega) (by omega) (by omega)
  obtain ⟨M2, s2, l2, _⟩ := sl_N hN 7 15 (by omega) (by omega) (by omega) (by omega)
  have hoy := since_ord ho (u.1 + 1)
  have hly : (since (u.1 + 1) r).length ≤ 60 := Nat.le_trans (since_len r _) hl
  obtain ⟨w1, c1, k1⟩ := went_ok hly u.2.1 u.2.2 (N := M1) (U := []) l1 (by simp)
  obtain ⟨w2, c2, k2⟩ := went_ok hly u.2.1 u.2.2 (N := M2) (U := w1) l2 (by omega)
  have hyl : ∀ d15 d16 d17 d18 : Dt, gLc (gSeq (gVar 1)) (tgN 6) (gTest (gOp hGt (gOp hIx (gVar 6) (gC (.int (0)))) (gVar 15))) (gVar 6) [.int n, .list (r.map enc3), .list (N.map .int), .int a, .int b, .list (Ps.map encP), d6, .int t, d8, d9, d10, d11, d12, d13, d14, .int u.1, d16, d17, d18, d19, d20, d21] = .ok (.list ((since (u.1 + 1) r).map enc3)) := fun _ d16 d17 d18 => by
    rw [← since_gt]
    exact gLc_map enc3 (fun s => decide (u.1 < s.1)) enc3 (xs := r) rfl (by omega) (fun s _ => ⟨_, rfl, by simp only [bnd_ok, gVar_def, gC_def, gOp_def, gUn_def, gNil_def, gCons_def, gIf_def, gTest_def, gNot_def, gAnd_def, gOr_def, gAndV_def, gOrV_def, gNotV_def, gCB_def, asB_b, hAdd_i, hSub_i, hLt_i, hLe_i, hGt_i, hGe_i, hMul_r, hMul_l, hMod_i, hDiv_s, hBand_i, hShr_i, hPow_10_18, hPow_10_27, hPow_10_28, hPow_10_29, hPow_10_30, hEq_i, hNe_i, hLen_l, hLen_t, hMin2_i, hMax2_i, hMin3_i, hInt1_b, hInt1_i, hBits_i, hListOf_l, hListOf_t, hTupOf_l, hTupOf_t, gSeqS_def, gSet_def, gRet_def, gIfS_def, gNext_def, gTup_def, gLst_def, List.getElem?_cons_zero, List.getElem?_cons_succ, List.set_cons_zero, List.set_cons_succ, List.length_cons, List.length_nil, Nat.zero_add, Nat.reduceAdd, Nat.reduceLeDiff, Nat.reduceSub, Nat.reduceMul, if_true, if_false, Bool.false_eq_true, List.replicate_succ, List.replicate_zero, List.cons_append, List.nil_append, tgN, tgT, tgCons, tgNil, Int.reducePow, Int.reduceAdd, Int.reduceSub, Int.reduceMul, decide_true, decide_false, Bool.not_true, Bool.not_false, gChain_def, hIsa_int, hIsa_intb, hIsa_list, hIsa_tuple, gDrop_def, ix3_0], fun _ => rfl⟩)
  generalize hY : since (u.1 + 1) r = Y at *
  -- both
  have hboth := gLc_map encI (leadB Y u.2.1 u.2.2) encI (gi := gSeq (gLst (gCons (gVar 19) (gCons (gVar 20) (gNil))))) (h := tgN 12) (gt := gTest (gCallN 4 f_l_leads (gCons (gVar 18) (gCons (gVar 16) (gCons (gVar 17) (gCons (gVar 12) (gNil))))))) (ge := gVar 12)
    (ρ := [.int n, .list (r.map enc3), .list (N.map .int), .int a, .int b, .list (Ps.map encP), d6, .int t, d8, d9, d10, d11, d12, d13, d14, .int u.1, .int u.2.1, .int u.2.2, .list (Y.map enc3), encI w1, encI w2, d21]) (xs := [w1, w2]) (seqG_l (by rfl)) (by simp) (fun w _ =>
      ⟨[.int n, .list (r.map enc3), .list (N.map .int), .int a, .int b, .list (Ps.map encP), d6, .int t, d8, d9, d10, d11, encI w, d13, d14, .int u.1, .int u.2.1, .int u.2.2, .list (Y.map enc3), encI w1, encI w2, d21], rfl, by
        have c : gCallN 4 f_l_leads (gCons (gVar 18) (gCons (gVar 16) (gCons (gVar 17) (gCons (gVar 12) (gNil))))) [.int n, .list (r.map enc3), .list (N.map .int), .int a, .int b, .list (Ps.map encP), d6, .int t, d8, d9, d10, d11, encI w, d13, d14, .int u.1, .int u.2.1, .int u.2.2, .list (Y.map enc3), encI w1, encI w2, d21] = .ok (.bool (leadB Y u.2.1 u.2.2 w)) := callN_ok (ds := [.list (Y.map enc3), .int u.2.1, .int u.2.2, .list (w.map .int)]) rfl rfl (leads_ok hoy hly u.2.1 u.2.2 w)
        rw [gTest_def, c]
        rfl, fun _ => rfl⟩)
  have hBl : ([w1, w2].filter (leadB Y u.2.1 u.2.2)).length ≤ 2 := List.length_filter_le _ _
  have hBf : ([w1, w2].filter (leadB Y u.2.1 u.2.2)).flatten.length ≤ 16 := by
    rw [List.filter_cons, List.filter_cons, List.filter_nil]
    split <;> split <;> simp <;> omega
  generalize hB : [w1, w2].filter (leadB Y u.2.1 u.2.2) = B at hboth hBl hBf
  have htk := fl_take1 B
  have hsl : hSl (.list (B.map encI)) none (some 1) = .ok (.list ((B.take 1).map encI)) := hSl_to' encI B (by omega)
  have hc1 := hCat_map encI (B.take 1) [[u.1]] (by rw [List.length_singleton]; omega)
  have hc2 := hCat_map encI B (B.take 1) (by omega)
  refine ⟨(Ps ++ [.out u.1 B, .out u.1 (B.take 1 ++ [[u.1]])]) ++ [.out (u.1 + 1) B, .out u.1 [w2], .out u.1 (B ++ B.take 1)], ?_, ?_, ?_⟩
  · intro p hp
    simp only [List.mem_append, List.mem_cons, List.not_mem_nil, or_false] at hp
    rcases hp with (hp | rfl | rfl) | rfl | rfl | rfl
    · exact hP p hp
    · exact ⟨by omega, by omega⟩
    · exact ⟨by rw [List.length_append, List.length_singleton]; omega, by rw [List.flatten_append, List.length_append, show ([[u.1]] : List (List Int)).flatten.length = 1 from rfl]; omega⟩
    · exact ⟨by omega, by omega⟩
    · exact ⟨by simp, by simp; omega⟩
    · exact ⟨by rw [List.length_append]; omega, by rw [List.flatten_append, List.length_append]; omega⟩
  · simp only [List.length_append, List.length_cons, List.length_nil]
    omega
  refine seq_step (ρ' := [.int n, .list (r.map enc3), .list (N.map .int), .int a, .int b, .list (((Ps ++ [Pap.out u.1 B, Pap.out u.1 (B.take 1 ++ [[u.1]])]) ++ [Pap.out (u.1 + 1) B, Pap.out u.1 [w2], Pap.out u.1 (B ++ B.take 1)]).map encP), d6, .int t, d8, d9, d10, d11, d12, d13, d14, .int u.1, .int u.2.1, .int u.2.2, .list (Y.map enc3), encI w1, encI w2, .list (B.map encI)]) ((if_t tn).trans ?_) rfl
  have hpr : gPur (gOp hIx (gVar 1) (gOp hMod (gOp hIx (gVar 2) (gC (.int (16)))) (gCB hLen (gCons (gVar 1) (gNil))))) [.int n, .list (r.map enc3), .list (N.map .int), .int a, .int b, .list (Ps.map encP), d6, .int t, d8, d9, d10, d11, d12, d13, d14, d15, d16, d17, d18, d19, d20, d21] = .ok (enc3 u) := by
    have e : gOp hIx (gVar 1) (gOp hMod (gOp hIx (gVar 2) (gC (.int (16)))) (gCB hLen (gCons (gVar 1) (gNil)))) [.int n, .list (r.map enc3), .list (N.map .int), .int a, .int b, .list (Ps.map encP), d6, .int t, d8, d9, d10, d11, d12, d13, d14, d15, d16, d17, d18, d19, d20, d21] = .ok (enc3 u) := by
      simp only [bnd_ok, gVar_def, gC_def, gOp_def, gUn_def, gNil_def, gCons_def, gIf_def, gTest_def, gNot_def, gAnd_def, gOr_def, gAndV_def, gOrV_def, gNotV_def, gCB_def, asB_b, hAdd_i, hSub_i, hLt_i, hLe_i, hGt_i, hGe_i, hMul_r, hMul_l, hMod_i, hDiv_s, hBand_i, hShr_i, hPow_10_18, hPow_10_27, hPow_10_28, hPow_10_29, hPow_10_30, hEq_i, hNe_i, hLen_l, hLen_t, hMin2_i, hMax2_i, hMin3_i, hInt1_b, hInt1_i, hBits_i, hListOf_l, hListOf_t, hTupOf_l, hTupOf_t, gSeqS_def, gSet_def, gRet_def, gIfS_def, gNext_def, gTup_def, gLst_def, List.getElem?_cons_zero, List.getElem?_cons_succ, List.set_cons_zero, List.set_cons_succ, List.length_cons, List.length_nil, Nat.zero_add, Nat.reduceAdd, Nat.reduceLeDiff, Nat.reduceSub, Nat.reduceMul, if_true, if_false, Bool.false_eq_true, List.replicate_succ, List.replicate_zero, List.cons_append, List.nil_append, tgN, tgT, tgCons, tgNil, Int.reducePow, Int.reduceAdd, Int.reduceSub, Int.reduceMul, decide_true, decide_false, Bool.not_true, Bool.not_false, gChain_def, hIsa_int, hIsa_intb, hIsa_list, hIsa_tuple, gDrop_def, List.length_map, i16, hmod, hix]
    rw [gPur_def, e, bnd_ok]
    exact if_pos (pure1_3 u)
  refine seq_step (asg_ok (ρ' := [.int n, .list (r.map enc3), .list (N.map .int), .int a, .int b, .list (Ps.map encP), d6, .int t, d8, d9, d10, d11, d12, d13, d14, .int u.1, .int u.2.1, .int u.2.2, d18, d19, d20, d21]) hpr rfl) ?_
  refine seq_step (set_ok (hyl .none _ _ _)) ?_
  dsimp only [List.set]
  refine seq_step (set_ok (d := encI w1) (callN_ok (ds := [.list (Y.map enc3), .int u.2.1, .int u.2.2, .list (M1.map .int), .list (([] : List Int).map .int)]) ?_ rfl c1)) ?_
  · have e : gLst gNil [.int n, .list (r.map enc3), .list (N.map .int), .int a, .int b, .list (Ps.map encP), d6, .int t, d8, d9, d10, d11, d12, d13, d14, .int u.1, .int u.2.1, .int u.2.2, .list (Y.map enc3), d19, d20, d21] = .ok (.list []) := gLst_nil _
    rw [gCons_def, gCons_def, gCons_def, gCons_def, gCons_def, e]
    simp only [bnd_ok, gVar_def, gC_def, gOp_def, gUn_def, gNil_def, gCons_def, gIf_def, gTest_def, gNot_def, gAnd_def, gOr_def, gAndV_def, gOrV_def, gNotV_def, gCB_def, asB_b, hAdd_i, hSub_i, hLt_i, hLe_i, hGt_i, hGe_i, hMul_r, hMul_l, hMod_i, hDiv_s, hBand_i, hShr_i, hPow_10_18, hPow_10_27, hPow_10_28, hPow_10_29, hPow_10_30, hEq_i, hNe_i, hLen_l, hLen_t, hMin2_i, hMax2_i, hMin3_i, hInt1_b, hInt1_i, hBits_i, hListOf_l, hListOf_t, hTupOf_l, hTupOf_t, gSeqS_def, gSet_def, gRet_def, gIfS_def, gNext_def, gTup_def, gLst_def, List.getElem?_cons_zero, List.getElem?_cons_succ, List.set_cons_zero, List.set_cons_succ, List.length_cons, List.length_nil, Nat.zero_add, Nat.reduceAdd, Nat.reduceLeDiff, Nat.reduceSub, Nat.reduceMul, if_true, if_false, Bool.false_eq_true, List.replicate_succ, List.replicate_zero, List.cons_append, List.nil_append, tgN, tgT, tgCons, tgNil, Int.reducePow, Int.reduceAdd, Int.reduceSub, Int.reduceMul, decide_true, decide_false, Bool.not_true, Bool.not_false, gChain_def, hIsa_int, hIsa_intb, hIsa_list, hIsa_tuple, gDrop_def, gCallN_def, gAsg_def, gSl_def, gNoPart_def, gPart_def, hSl_from', hSl_to', s1]
    rfl
  dsimp only [List.set]
  refine seq_step (set_ok (d := encI w2) (callN_ok (ds := [.list (Y.map enc3), .int u.2.1, .int u.2.2, .list (M2.map .int), .list (w1.map .int)]) ?_ rfl c2)) ?_
  · simp only [bnd_ok, gVar_def, gC_def, gOp_def, gUn_def, gNil_def, gCons_def, gIf_def, gTest_def, gNot_def, gAnd_def, gOr_def, gAndV_def, gOrV_def, gNotV_def, gCB_def, asB_b, hAdd_i, hSub_i, hLt_i, hLe_i, hGt_i, hGe_i, hMul_r, hMul_l, hMod_i, hDiv_s, hBand_i, hShr_i, hPow_10_18, hPow_10_27, hPow_10_28, hPow_10_29, hPow_10_30, hEq_i, hNe_i, hLen_l, hLen_t, hMin2_i, hMax2_i, hMin3_i, hInt1_b, hInt1_i, hBits_i, hListOf_l, hListOf_t, hTupOf_l, hTupOf_t, gSeqS_def, gSet_def, gRet_def, gIfS_def, gNext_def, gTup_def, gLst_def, List.getElem?_cons_zero, List.getElem?_cons_succ, List.set_cons_zero, List.set_cons_succ, List.length_cons, List.length_nil, Nat.zero_add, Nat.reduceAdd, Nat.reduceLeDiff, Nat.reduceSub, Nat.reduceMul, if_true, if_false, Bool.false_eq_true, List.replicate_succ, List.replicate_zero, List.cons_append, List.nil_append, tgN, tgT, tgCons, tgNil, Int.reducePow, Int.reduceAdd, Int.reduceSub, Int.reduceMul, decide_true, decide_false, Bool.not_true, Bool.not_false, gChain_def, hIsa_int, hIsa_intb, hIsa_list, hIsa_tuple, gDrop_def, gCallN_def, gAsg_def, gSl_def, gNoPart_def, gPart_def, hSl_from', hSl_to', s2]
    rfl
  dsimp only [List.set]
  refine seq_step (set_ok hboth) ?_
  dsimp only [List.set]
  have hq1 := hCat_map encP Ps [.out u.1 B, .out u.1 (B.take 1 ++ [[u.1]])] (by simp; omega)
  have hq2 := hCat_map encP (Ps ++ [.out u.1 B, .out u.1 (B.take 1 ++ [[u.1]])]) [.out (u.1 + 1) B, .out u.1 [w2], .out u.1 (B ++ B.take 1)] (by simp; omega)
  refine seq_step (set_ok (d := .list ((Ps ++ [Pap.out u.1 B, Pap.out u.1 (B.take 1 ++ [[u.1]])]).map encP)) ?_) ?_
  · rw [gOp_def]
    refine Eq.trans ?_ hq1
    have e : gLst (gCons (gTup (gCons (gC (.str "out")) (gCons (gVar 15) (gCons (gVar 21) (gNil))))) (gCons (gTup (gCons (gC (.str "out")) (gCons (gVar 15) (gCons (gOp hCat (gSl hSl (gVar 21) (gNoPart) (gPart (gC (.int (1))))) (gLst (gCons (gLst (gCons (gVar 15) (gNil))) (gNil)))) (gNil))))) (gNil)))
        [.int n, .list (r.map enc3), .list (N.map .int), .int a, .int b, .list (Ps.map encP), d6, .int t, d8, d9, d10, d11, d12, d13, d14, .int u.1, .int u.2.1, .int u.2.2, .list (Y.map enc3), encI w1, encI w2, .list (B.map encI)] = .ok (.list ([Pap.out u.1 B, .out u.1 (B.take 1 ++ [[u.1]])].map encP)) := by
      refine lst2 (tup3 rfl rfl) (tup3 (x1 := .int u.1) rfl (x2 := .list ((B.take 1 ++ [[u.1]]).map encI)) ?_)
      rw [gOp_def, gSl_def]
      simp only [gVar_def, List.getElem?_cons_zero, List.getElem?_cons_succ, bnd_ok, gNoPart_def, gPart_def, gC_def, hsl]
      exact hc1
    rw [e]
    rfl
  dsimp only [List.set]
  refine (set_ok (d := .list (((Ps ++ [Pap.out u.1 B, Pap.out u.1 (B.take 1 ++ [[u.1]])]) ++ [Pap.out (u.1 + 1) B, Pap.out u.1 [w2], Pap.out u.1 (B ++ B.take 1)]).map encP)) ?_).trans rfl
  generalize Ps ++ [Pap.out u.1 B, Pap.out u.1 (B.take 1 ++ [[u.1]])] = Qs at *
  rw [gOp_def]
  refine Eq.trans ?_ hq2
  have e : gLst (gCons (gTup (gCons (gC (.str "out")) (gCons (gOp hAdd (gVar 15) (gC (.int (1)))) (gCons (gVar 21) (gNil))))) (gCons (gTup (gCons (gC (.str "out")) (gCons (gVar 15) (gCons (gLst (gCons (gVar 20) (gNil))) (gNil))))) (gCons (gTup (gCons (gC (.str "out")) (gCons (gVar 15) (gCons (gOp hCat (gVar 21) (gSl hSl (gVar 21) (gNoPart) (gPart (gC (.int (1)))))) (gNil))))) (gNil))))
      [.int n, .list (r.map enc3), .list (N.map .int), .int a, .int b, .list (Qs.map encP), d6, .int t, d8, d9, d10, d11, d12, d13, d14, .int u.1, .int u.2.1, .int u.2.2, .list (Y.map enc3), encI w1, encI w2, .list (B.map encI)] = .ok (.list ([Pap.out (u.1 + 1) B, .out u.1 [w2], .out u.1 (B ++ B.take 1)].map encP)) := by
    refine lst3 (tup3 (x1 := .int (u.1 + 1)) rfl rfl) (tup3 (x2 := .list [encI w2]) rfl (by rfl)) (tup3 (x1 := .int u.1) (x2 := .list ((B ++ B.take 1).map encI)) rfl ?_)
    rw [gOp_def, gSl_def]
    simp only [gVar_def, List.getElem?_cons_zero, List.getElem?_cons_succ, bnd_ok, gNoPart_def, gPart_def, gC_def, hsl]
    exact hc2
  rw [e]
  rfl
theorem stB {n a b t : Int} {r : List T3} {N E : List Int} (ho : r.Pairwise fun s t => s.1 < t.1) (hl : r.length ≤ 60) (hN : N.length = 17) {Ps : List Pap} (hP : ∀ p ∈ Ps, p.Ok) (hPl : Ps.length ≤ 90) (d6 d9 d10 d11 d12 d14 d15 d16 d17 d18 d19 d20 d21 : Dt) :
    ∃ Ps' : List Pap, (∀ p ∈ Ps', p.Ok) ∧ Ps'.length ≤ 110 ∧ gSeqS lp13 (gSeqS lp14 (gRet (gVar 5))) [.int n, .list (r.map enc3), .list (N.map .int), .int a, .int b, .list (Ps.map encP), d6, .int t, .list ((since t r).map enc3), d9, d10, d11, d12, .list (E.map .int), d14, d15, d16, d17, d18, d19, d20, d21] = .ok (.rt (.list (Ps'.map encP))) := by
  have tn : gTest (gOp hNe (gVar 13) (gLst (gNil))) [.int n, .list (r.map enc3), .list (N.map .int), .int a, .int b, .list (Ps.map encP), d6, .int t, .list ((since t r).map enc3), d9, d10, d11, d12, .list (E.map .int), d14, d15, d16, d17, d18, d19, d20, d21] = .ok (!decide (E = [])) := by
    rw [gTest_def, gOp_def, gLst_nil]
    show bnd (hNe (.list (E.map .int)) (.list (([] : List Int).map .int))) asB = _
    rw [hNe_ints]
    rfl
  by_cases hE : E = []
  · rw [decide_eq_true hE] at tn
    obtain ⟨Ps', h1, h2, h3⟩ := stC (n := n) (a := a) (b := b) (t := t) ho hl hN hP (by omega) d6 (.list ((since t r).map enc3)) d9 d10 d11 d12 (.list (E.map .int)) d14 d15 d16 d17 d18 d19 d20 d21
    exact ⟨Ps', h1, h2, seq_step ((if_f tn).trans rfl) h3⟩
  rw [decide_eq_false hE] at tn
  have hpos : 0 < E.length := List.length_pos_iff.mpr hE
  obtain ⟨x6, i6⟩ : ∃ x, hIx (.list (N.map .int)) (.int 6) = .ok (.int x) := ⟨_, hIx_ints (by omega) (by omega)⟩
  have hm0 := Int.emod_nonneg x6 (by omega : (E.length : Int) ≠ 0)
  have hm1 := Int.emod_lt_of_pos x6 (by omega : (0 : Int) < E.length)
  have hix := hIx_ints hm0 hm1
  generalize E[(x6 % (E.length : Int)).toNat]'(by omega) = u at hix
  have hmod : hMod (.int x6) (.int (E.length : Nat)) = .ok (.int (x6 % (E.length : Int))) := hMod_i (by omega)
  obtain ⟨M1, s1, l1, _⟩ := sl_N hN 6 14 (by omega) (by omega) (by omega) (by omega)
  have hly : (since t r).length ≤ 60 := Nat.le_trans (since_len r _) hl
  obtain ⟨w1, c1, k1⟩ := went_ok hly a b (N := M1) (U := []) l1 (by simp)
  have hP' : ∀ p ∈ Ps ++ [Pap.ways a b t [[u, u] ++ w1]], p.Ok := fun p hp => by
    rcases List.mem_append.mp hp with hp | hp
    · exact hP p hp
    · rw [List.mem_singleton.mp hp]
      exact ⟨by simp, by simp; omega⟩
  obtain ⟨Ps', h1, h2, h3⟩ := stC (n := n) (a := a) (b := b) (t := t) ho hl hN hP' (by rw [List.length_append, List.length_singleton]; omega) d6 (.list ((since t r).map enc3)) d9 d10 d11 d12 (.list (E.map .int)) (.int u) d15 d16 d17 d18 d19 d20 d21
  refine ⟨Ps', h1, h2, seq_step ((if_t tn).trans ?_) h3⟩
  refine seq_step (set_ok (d := .int u) ?_) ?_
  · have e : gOp hIx (gVar 13) (gOp hMod (gOp hIx (gVar 2) (gC (.int (6)))) (gCB hLen (gCons (gVar 13) (gNil)))) [.int n, .list (r.map enc3), .list (N.map .int), .int a, .int b, .list (Ps.map encP), d6, .int t, .list ((since t r).map enc3), d9, d10, d11, d12, .list (E.map .int), d14, d15, d16, d17, d18, d19, d20, d21] = .ok (.int u) := by
      simp only [bnd_ok, gVar_def, gC_def, gOp_def, gUn_def, gNil_def, gCons_def, gIf_def, gTest_def, gNot_def, gAnd_def, gOr_def, gAndV_def, gOrV_def, gNotV_def, gCB_def, asB_b, hAdd_i, hSub_i, hLt_i, hLe_i, hGt_i, hGe_i, hMul_r, hMul_l, hMod_i, hDiv_s, hBand_i, hShr_i, hPow_10_18, hPow_10_27, hPow_10_28, hPow_10_29, hPow_10_30, hEq_i, hNe_i, hLen_l, hLen_t, hMin2_i, hMax2_i, hMin3_i, hInt1_b, hInt1_i, hBits_i, hListOf_l, hListOf_t, hTupOf_l, hTupOf_t, gSeqS_def, gSet_def, gRet_def, gIfS_def, gNext_def, gTup_def, gLst_def, List.getElem?_cons_zero, List.getElem?_cons_succ, List.set_cons_zero, List.set_cons_succ, List.length_cons, List.length_nil, Nat.zero_add, Nat.reduceAdd, Nat.reduceLeDiff, Nat.reduceSub, Nat.reduceMul, if_true, if_false, Bool.false_eq_true, List.replicate_succ, List.replicate_zero, List.cons_append, List.nil_append, tgN, tgT, tgCons, tgNil, Int.reducePow, Int.reduceAdd, Int.reduceSub, Int.reduceMul, decide_true, decide_false, Bool.not_true, Bool.not_false, gChain_def, hIsa_int, hIsa_intb, hIsa_list, hIsa_tuple, gDrop_def, List.length_map, i6, hmod, hix]
    rw [gPur_def, e]
    rfl
  dsimp only [List.set]
  refine snoc_app rfl ?_ (by omega)
  refine tup5 (x1 := .int a) (x2 := .int b) (x3 := .int t) (x4 := .list [encI ([u, u] ++ w1)]) rfl rfl rfl ?_
  have cw : gCallN 5 f_l_went (gCons (gVar 8) (gCons (gVar 3) (gCons (gVar 4) (gCons (gSl hSl (gVar 2) (gPart (gC (.int (6)))) (gPart (gC (.int (14))))) (gCons (gLst (gNil)) (gNil)))))) [.int n, .list (r.map enc3), .list (N.map .int), .int a, .int b, .list (Ps.map encP), d6, .int t, .list ((since t r).map enc3), d9, d10, d11, d12, .list (E.map .int), .int u, d15, d16, d17, d18, d19, d20, d21] = .ok (.list (w1.map .int)) := by
    refine callN_ok (ds := [.list ((since t r).map enc3), .int a, .int b, .list (M1.map .int), .list (([] : List Int).map .int)]) ?_ rfl c1
    rw [gCons_def, gCons_def, gCons_def, gCons_def, gCons_def, gLst_nil]
    simp only [bnd_ok, gVar_def, gC_def, gOp_def, gUn_def, gNil_def, gCons_def, gIf_def, gTest_def, gNot_def, gAnd_def, gOr_def, gAndV_def, gOrV_def, gNotV_def, gCB_def, asB_b, hAdd_i, hSub_i, hLt_i, hLe_i, hGt_i, hGe_i, hMul_r, hMul_l, hMod_i, hDiv_s, hBand_i, hShr_i, hPow_10_18, hPow_10_27, hPow_10_28, hPow_10_29, hPow_10_30, hEq_i, hNe_i, hLen_l, hLen_t, hMin2_i, hMax2_i, hMin3_i, hInt1_b, hInt1_i, hBits_i, hListOf_l, hListOf_t, hTupOf_l, hTupOf_t, gSeqS_def, gSet_def, gRet_def, gIfS_def, gNext_def, gTup_def, gLst_def, List.getElem?_cons_zero, List.getElem?_cons_succ, List.set_cons_zero, List.set_cons_succ, List.length_cons, List.length_nil, Nat.zero_add, Nat.reduceAdd, Nat.reduceLeDiff, Nat.reduceSub, Nat.reduceMul, if_true, if_false, Bool.false_eq_true, List.replicate_succ, List.replicate_zero, List.cons_append, List.nil_append, tgN, tgT, tgCons, tgNil, Int.reducePow, Int.reduceAdd, Int.reduceSub, Int.reduceMul, decide_true, decide_false, Bool.not_true, Bool.not_false, gChain_def, hIsa_int, hIsa_intb, hIsa_list, hIsa_tuple, gDrop_def, gCallN_def, gAsg_def, gSl_def, gNoPart_def, gPart_def, hSl_from', hSl_to', s1]
    rfl
  have hcat := hCat_map PyData.int [u, u] w1 (by simp; omega)
  rw [gLst_def, gCons_def, gOp_def, cw]
  have e2 : gLst (gCons (gVar 14) (gCons (gVar 14) (gNil))) [.int n, .list (r.map enc3), .list (N.map .int), .int a, .int b, .list (Ps.map encP), d6, .int t, .list ((since t r).map enc3), d9, d10, d11, d12, .list (E.map .int), .int u, d15, d16, d17, d18, d19, d20, d21] = .ok (.list ([u, u].map .int)) := by rfl
  rw [e2, bnd_ok, bnd_ok, hcat]
  rfl
theorem papers_ok {n : Int} {r : List T3} {N : List Int} (ho : r.Pairwise fun s t => s.1 < t.1) (hl : r.length ≤ 60) (hN : N.length = 17) (n1 : 1 ≤ n) (n10 : n ≤ 10) :
    ∃ Ps : List Pap, (∀ p ∈ Ps, p.Ok) ∧ Ps.length ≤ 110 ∧ f_l_papers [.int n, .list (r.map enc3), .list (N.map .int)] = .ok (.list (Ps.map encP)) := by
  have ix : ∀ i : Int, 0 ≤ i → i < 17 → ∃ x, hIx (.list (N.map .int)) (.int i) = .ok (.int x) := fun i h0 h1 => ⟨_, hIx_ints h0 (by omega)⟩
  obtain ⟨x0, i0⟩ := ix 0 (by omega) (by omega)
  obtain ⟨x1, i1⟩ := ix 1 (by omega) (by omega)
  obtain ⟨x2, i2⟩ := ix 2 (by omega) (by omega)
  obtain ⟨x3, i3⟩ := ix 3 (by omega) (by omega)
  obtain ⟨x4, i4⟩ := ix 4 (by omega) (by omega)
  obtain ⟨x5, i5⟩ := ix 5 (by omega) (by omega)
  have m0 : hMod (.int x0) (.int n) = .ok (.int (x0 % n)) := hMod_i (by omega)
  have m1 : hMod (.int x1) (.int n) = .ok (.int (x1 % n)) := hMod_i (by omega)
  have m32 : hMod (.int x3) (.int 2) = .ok (.int (x3 % 2)) := hMod_i (by omega)
  have m33 : hMod (.int x3) (.int 3) = .ok (.int (x3 % 3)) := hMod_i (by omega)
  generalize ha : x0 % n = a at m0
  generalize hb : x1 % n = b at m1
  -- the moments
  have hsome := gLc_map enc3 (fun _ => true) (fun s => PyData.int (s.1 + x3 % 2)) (gi := gSeq (gVar 1)) (h := tgN 6) (gt := gYes) (ge := gOp hAdd (gOp hIx (gVar 6) (gC (.int (0)))) (gOp hMod (gOp hIx (gVar 2) (gC (.int (3)))) (gC (.int (2)))))
    (ρ := [.int n, .list (r.map enc3), .list (N.map .int), .int a, .int b, .none, .none, .none, .none, .none, .none, .none, .none, .none, .none, .none, .none, .none, .none, .none, .none, .none]) (xs := r) rfl (by omega) (fun s _ => ⟨_, rfl, rfl, fun _ => by simp only [bnd_ok, gVar_def, gC_def, gOp_def, gUn_def, gNil_def, gCons_def, gIf_def, gTest_def, gNot_def, gAnd_def, gOr_def, gAndV_def, gOrV_def, gNotV_def, gCB_def, asB_b, hAdd_i, hSub_i, hLt_i, hLe_i, hGt_i, hGe_i, hMul_r, hMul_l, hMod_i, hDiv_s, hBand_i, hShr_i, hPow_10_18, hPow_10_27, hPow_10_28, hPow_10_29, hPow_10_30, hEq_i, hNe_i, hLen_l, hLen_t, hMin2_i, hMax2_i, hMin3_i, hInt1_b, hInt1_i, hBits_i, hListOf_l, hListOf_t, hTupOf_l, hTupOf_t, gSeqS_def, gSet_def, gRet_def, gIfS_def, gNext_def, gTup_def, gLst_def, List.getElem?_cons_zero, List.getElem?_cons_succ, List.set_cons_zero, List.set_cons_succ, List.length_cons, List.length_nil, Nat.zero_add, Nat.reduceAdd, Nat.reduceLeDiff, Nat.reduceSub, Nat.reduceMul, if_true, if_false, Bool.false_eq_true, List.replicate_succ, List.replicate_zero, List.cons_append, List.nil_append, tgN, tgT, tgCons, tgNil, Int.reducePow, Int.reduceAdd, Int.reduceSub, Int.reduceMul, decide_true, decide_false, Bool.not_true, Bool.not_false, gChain_def, hIsa_int, hIsa_intb, hIsa_list, hIsa_tuple, gDrop_def, ix3_0, i3, m32]⟩)
  rw [List.filter_eq_self.mpr (fun _ _ => rfl)] at hsome
  have hmm : (r.map fun s => PyData.int (s.1 + x3 % 2)) = (r.map fun s => s.1 + x3 % 2).map PyData.int := by rw [List.map_map]; rfl
  rw [hmm] at hsome
  have hcat := hCat_map PyData.int (r.map fun s => s.1 + x3 % 2) [0, x2] (by simp; omega)
  have hSMl : ((r.map fun s => s.1 + x3 % 2) ++ [0, x2]).length ≤ 62 := by simp; omega
  have hSp : 0 < ((r.map fun s => s.1 + x3 % 2) ++ [0, x2]).length := by simp
  generalize (r.map fun s => s.1 + x3 % 2) ++ [0, x2] = SM at *
  have hm0 := Int.emod_nonneg x4 (by omega : (SM.length : Int) ≠ 0)
  have hm1 := Int.emod_lt_of_pos x4 (by omega : (0 : Int) < SM.length)
  have hix := hIx_ints hm0 hm1
  generalize SM[(x4 % (SM.length : Int)).toNat]'(by omega) = t at hix
  have hmod : hMod (.int x4) (.int (SM.length : Nat)) = .ok (.int (x4 % (SM.length : Int))) := hMod_i (by omega)
  have hlat := gLc_map enc3 (fun s => decide (t ≤ s.1)) enc3 (gi := gSeq (gVar 1)) (h := tgN 6) (gt := gTest (gOp hGe (gOp hIx (gVar 6) (gC (.int (0)))) (gVar 7))) (ge := gVar 6)
    (ρ := [.int n, .list (r.map enc3), .list (N.map .int), .int a, .int b, .list (SM.map .int), .none, .int t, .none, .none, .none, .none, .none, .none, .none, .none, .none, .none, .none, .none, .none, .none]) (xs := r) rfl (by omega) (fun s _ => ⟨_, rfl, by simp only [bnd_ok, gVar_def, gC_def, gOp_def, gUn_def, gNil_def, gCons_def, gIf_def, gTest_def, gNot_def, gAnd_def, gOr_def, gAndV_def, gOrV_def, gNotV_def, gCB_def, asB_b, hAdd_i, hSub_i, hLt_i, hLe_i, hGt_i, hGe_i, hMul_r, hMul_l, hMod_i, hDiv_s, hBand_i, hShr_i, hPow_10_18, hPow_10_27, hPow_10_28, hPow_10_29, hPow_10_30, hEq_i, hNe_i, hLen_l, hLen_t, hMin2_i, hMax2_i, hMin3_i, hInt1_b, hInt1_i, hBits_i, hListOf_l, hListOf_t, hTupOf_l, hTupOf_t, gSeqS_def, gSet_def, gRet_def, gIfS_def, gNext_def, gTup_def, gLst_def, List.getElem?_cons_zero, List.getElem?_cons_succ, List.set_cons_zero, List.set_cons_succ, List.length_cons, List.length_nil, Nat.zero_add, Nat.reduceAdd, Nat.reduceLeDiff, Nat.reduceSub, Nat.reduceMul, if_true, if_false, Bool.false_eq_true, List.replicate_succ, List.replicate_zero, List.cons_append, List.nil_append, tgN, tgT, tgCons, tgNil, Int.reducePow, Int.reduceAdd, Int.reduceSub, Int.reduceMul, decide_true, decide_false, Bool.not_true, Bool.not_false, gChain_def, hIsa_int, hIsa_intb, hIsa_list, hIsa_tuple, gDrop_def, ix3_0], fun _ => rfl⟩)
  obtain ⟨WS, U, y11, y12, hloop, hW1, hW2⟩ := loop_ok (n := n) (a := a) (b := b) (t := t) (x5 := x5) ho hl hN i5 (.int n) (.list (r.map enc3)) (.list (SM.map .int)) .none .none .none .none .none .none .none .none .none .none .none .none
  obtain ⟨M2, s2, l2, e2⟩ := sl_N hN 14 16 (by omega) (by omega) (by omega) (by omega)
  obtain ⟨S, hS, hS2⟩ := lside_ok n1 n10 a b (N := M2) (by rw [e2]; rfl)
  have htk := fl_take1 WS
  have hrv := fl_rev WS
  -- the first papers
  let P1 : List Pap := [.ways a b t WS, .ways b a t (WS.map List.reverse)]
  let P2 : List Pap := P1 ++ [.ways a b (t + x3 % 3) (WS ++ WS.take 1)]
  let P3 : List Pap := P2 ++ [.side a b t S]
  let P4 : List Pap := P3 ++ [.ways a (n + b) t [], .ways a b (-1) [], .side a b t [-1, a]]
  have hP4 : ∀ p ∈ P4, p.Ok := fun p hp => by
    simp only [P4, P3, P2, P1, List.mem_append, List.mem_cons, List.not_mem_nil, or_false] at hp
    rcases hp with (((rfl | rfl) | rfl) | rfl) | rfl | rfl | rfl
    · exact ⟨by omega, by omega⟩
    · exact ⟨by rw [List.length_map]; omega, by omega⟩
    · exact ⟨by rw [List.length_append]; omega, by rw [List.flatten_append, List.length_append]; omega⟩
    · exact hS2
    · exact ⟨by simp, by simp⟩
    · exact ⟨by simp, by simp⟩
    · show ([-1, a] : List Int).length < 64
      simp
  have hnear := gLc_map enc3 (fun s => on s a && ne3 s) (fun s => PyData.int s.1) (gi := gSeq (gVar 8)) (h := tgN 6) (gt := gAnd (gTest (gOp hIn (gVar 3) (gSl hSlT (gVar 6) (gPart (gC (.int (1)))) (gNoPart)))) (gTest (gOp hNe (gOp hIx (gVar 6) (gC (.int (1)))) (gOp hIx (gVar 6) (gC (.int (2))))))) (ge := gOp hIx (gVar 6) (gC (.int (0))))
    (ρ := [.int n, .list (r.map enc3), .list (N.map .int), .int a, .int b, .list (P4.map encP), .none, .int t, .list ((since t r).map enc3), .list (WS.map encI), .list (U.map .int), y11, y12, .none, .none, .none, .none, .none, .none, .none, .none, .none]) (xs := since t r) rfl (by have := since_len r t; omega)
    (fun s _ => ⟨[.int n, .list (r.map enc3), .list (N.map .int), .int a, .int b, .list (P4.map encP), enc3 s, .int t, .list ((since t r).map enc3), .list (WS.map encI), .list (U.map .int), y11, y12, .none, .none, .none, .none, .none, .none, .none, .none, .none], rfl, by
      have c1 : gTest (gOp hIn (gVar 3) (gSl hSlT (gVar 6) (gPart (gC (.int (1)))) (gNoPart))) [.int n, .list (r.map enc3), .list (N.map .int), .int a, .int b, .list (P4.map encP), enc3 s, .int t, .list ((since t r).map enc3), .list (WS.map encI), .list (U.map .int), y11, y12, .none, .none, .none, .none, .none, .none, .none, .none, .none] = .ok (on s a) := by
        have e1 : gSl hSlT (gVar 6) (gPart (gC (.int (1)))) (gNoPart) [.int n, .list (r.map enc3), .list (N.map .int), .int a, .int b, .list (P4.map encP), enc3 s, .int t, .list ((since t r).map enc3), .list (WS.map encI), .list (U.map .int), y11, y12, .none, .none, .none, .none, .none, .none, .none, .none, .none] = .ok (encT s) := rfl
        rw [gTest_def, gOp_def, e1]
        show bnd (hIn (.int a) (encT s)) asB = _
        rw [hIn_tie s a]
        rfl
      have c2 : gTest (gOp hNe (gOp hIx (gVar 6) (gC (.int (1)))) (gOp hIx (gVar 6) (gC (.int (2))))) [.int n, .list (r.map enc3), .list (N.map .int), .int a, .int b, .list (P4.map encP), enc3 s, .int t, .list ((since t r).map enc3), .list (WS.map encI), .list (U.map .int), y11, y12, .none, .none, .none, .none, .none, .none, .none, .none, .none] = .ok (ne3 s) := by
        simp only [bnd_ok, gVar_def, gC_def, gOp_def, gUn_def, gNil_def, gCons_def, gIf_def, gTest_def, gNot_def, gAnd_def, gOr_def, gAndV_def, gOrV_def, gNotV_def, gCB_def, asB_b, hAdd_i, hSub_i, hLt_i, hLe_i, hGt_i, hGe_i, hMul_r, hMul_l, hMod_i, hDiv_s, hBand_i, hShr_i, hPow_10_18, hPow_10_27, hPow_10_28, hPow_10_29, hPow_10_30, hEq_i, hNe_i, hLen_l, hLen_t, hMin2_i, hMax2_i, hMin3_i, hInt1_b, hInt1_i, hBits_i, hListOf_l, hListOf_t, hTupOf_l, hTupOf_t, gSeqS_def, gSet_def, gRet_def, gIfS_def, gNext_def, gTup_def, gLst_def, List.getElem?_cons_zero, List.getElem?_cons_succ, List.set_cons_zero, List.set_cons_succ, List.length_cons, List.length_nil, Nat.zero_add, Nat.reduceAdd, Nat.reduceLeDiff, Nat.reduceSub, Nat.reduceMul, if_true, if_false, Bool.false_eq_true, List.replicate_succ, List.replicate_zero, List.cons_append, List.nil_append, tgN, tgT, tgCons, tgNil, Int.reducePow, Int.reduceAdd, Int.reduceSub, Int.reduceMul, decide_true, decide_false, Bool.not_true, Bool.not_false, gChain_def, hIsa_int, hIsa_intb, hIsa_list, hIsa_tuple, gDrop_def, ix3_1, ix3_2]
        rfl
      rw [gAnd_def, c1, bnd_ok, c2]
      cases on s a <;> rfl, fun _ => rfl⟩)
  rw [map1] at hnear
  generalize ((since t r).filter fun s => on s a && ne3 s).map (fun t => t.1) = E at hnear
  obtain ⟨Ps, h1, h2, h3⟩ := stB (n := n) (a := a) (b := b) (t := t) (E := E) ho hl hN hP4 (by simp [P4, P3, P2, P1]) .none (.list (WS.map encI)) (.list (U.map .int)) y11 y12 .none .none .none .none .none .none .none .none
  refine ⟨Ps, h1, h2, fnL_rt ?_⟩
  show g_l_papers [.int n, .list (r.map enc3), .list (N.map .int), .none, .none, .none, .none, .none, .none, .none, .none, .none, .none, .none, .none, .none, .none, .none, .none, .none, .none, .none] = _
  unfold g_l_papers
  refine seq_step (set_ok (d := .int a) (by simp only [bnd_ok, gVar_def, gC_def, gOp_def, gUn_def, gNil_def, gCons_def, gIf_def, gTest_def, gNot_def, gAnd_def, gOr_def, gAndV_def, gOrV_def, gNotV_def, gCB_def, asB_b, hAdd_i, hSub_i, hLt_i, hLe_i, hGt_i, hGe_i, hMul_r, hMul_l, hMod_i, hDiv_s, hBand_i, hShr_i, hPow_10_18, hPow_10_27, hPow_10_28, hPow_10_29, hPow_10_30, hEq_i, hNe_i, hLen_l, hLen_t, hMin2_i, hMax2_i, hMin3_i, hInt1_b, hInt1_i, hBits_i, hListOf_l, hListOf_t, hTupOf_l, hTupOf_t, gSeqS_def, gSet_def, gRet_def, gIfS_def, gNext_def, gTup_def, gLst_def, List.getElem?_cons_zero, List.getElem?_cons_succ, List.set_cons_zero, List.set_cons_succ, List.length_cons, List.length_nil, Nat.zero_add, Nat.reduceAdd, Nat.reduceLeDiff, Nat.reduceSub, Nat.reduceMul, if_true, if_false, Bool.false_eq_true, List.replicate_succ, List.replicate_zero, List.cons_append, List.nil_append, tgN, tgT, tgCons, tgNil, Int.reducePow, Int.reduceAdd, Int.reduceSub, Int.reduceMul, decide_true, decide_false, Bool.not_true, Bool.not_false, gChain_def, hIsa_int, hIsa_intb, hIsa_list, hIsa_tuple, gDrop_def, i0, m0])) ?_
  dsimp only [List.set]
  refine seq_step (set_ok (d := .int b) (by simp only [bnd_ok, gVar_def, gC_def, gOp_def, gUn_def, gNil_def, gCons_def, gIf_def, gTest_def, gNot_def, gAnd_def, gOr_def, gAndV_def, gOrV_def, gNotV_def, gCB_def, asB_b, hAdd_i, hSub_i, hLt_i, hLe_i, hGt_i, hGe_i, hMul_r, hMul_l, hMod_i, hDiv_s, hBand_i, hShr_i, hPow_10_18, hPow_10_27, hPow_10_28, hPow_10_29, hPow_10_30, hEq_i, hNe_i, hLen_l, hLen_t, hMin2_i, hMax2_i, hMin3_i, hInt1_b, hInt1_i, hBits_i, hListOf_l, hListOf_t, hTupOf_l, hTupOf_t, gSeqS_def, gSet_def, gRet_def, gIfS_def, gNext_def, gTup_def, gLst_def, List.getElem?_cons_zero, List.getElem?_cons_succ, List.set_cons_zero, List.set_cons_succ, List.length_cons, List.length_nil, Nat.zero_add, Nat.reduceAdd, Nat.reduceLeDiff, Nat.reduceSub, Nat.reduceMul, if_true, if_false, Bool.false_eq_true, List.replicate_succ, List.replicate_zero, List.cons_append, List.nil_append, tgN, tgT, tgCons, tgNil, Int.reducePow, Int.reduceAdd, Int.reduceSub, Int.reduceMul, decide_true, decide_false, Bool.not_true, Bool.not_false, gChain_def, hIsa_int, hIsa_intb, hIsa_list, hIsa_tuple, gDrop_def, i1, m1])) ?_
  dsimp only [List.set]
  refine seq_step (set_ok (d := .list (SM.map .int)) ?_) ?_
  · rw [gOp_def, hsome]
    refine Eq.trans ?_ hcat
    have e : gLst (gCons (gC (.int (0))) (gCons (gOp hIx (gVar 2) (gC (.int (2)))) (gNil))) [.int n, .list (r.map enc3), .list (N.map .int), .int a, .int b, .none, .none, .none, .none, .none, .none, .none, .none, .none, .none, .none, .none, .none, .none, .none, .none, .none] = .ok (.list [.int 0, .int x2]) := lst2 rfl (by simp only [bnd_ok, gVar_def, gC_def, gOp_def, gUn_def, gNil_def, gCons_def, gIf_def, gTest_def, gNot_def, gAnd_def, gOr_def, gAndV_def, gOrV_def, gNotV_def, gCB_def, asB_b, hAdd_i, hSub_i, hLt_i, hLe_i, hGt_i, hGe_i, hMul_r, hMul_l, hMod_i, hDiv_s, hBand_i, hShr_i, hPow_10_18, hPow_10_27, hPow_10_28, hPow_10_29, hPow_10_30, hEq_i, hNe_i, hLen_l, hLen_t, hMin2_i, hMax2_i, hMin3_i, hInt1_b, hInt1_i, hBits_i, hListOf_l, hListOf_t, hTupOf_l, hTupOf_t, gSeqS_def, gSet_def, gRet_def, gIfS_def, gNext_def, gTup_def, gLst_def, List.getElem?_cons_zero, List.getElem?_cons_succ, List.set_cons_zero, List.set_cons_succ, List.length_cons, List.length_nil, Nat.zero_add, Nat.reduceAdd, Nat.reduceLeDiff, Nat.reduceSub, Nat.reduceMul, if_true, if_false, Bool.false_eq_true, List.replicate_succ, List.replicate_zero, List.cons_append, List.nil_append, tgN, tgT, tgCons, tgNil, Int.reducePow, Int.reduceAdd, Int.reduceSub, Int.reduceMul, decide_true, decide_false, Bool.not_true, Bool.not_false, gChain_def, hIsa_int, hIsa_intb, hIsa_list, hIsa_tuple, gDrop_def, i2])
    rw [e]
    rfl
  dsimp only [List.set]
  refine seq_step (set_ok (d := .int t) ?_) ?_
  · have e : gOp hIx (gVar 5) (gOp hMod (gOp hIx (gVar 2) (gC (.int (4)))) (gCB hLen (gCons (gVar 5) (gNil)))) [.int n, .list (r.map enc3), .list (N.map .int), .int a, .int b, .list (SM.map .int), .none, .none, .none, .none, .none, .none, .none, .none, .none, .none, .none, .none, .none, .none, .none, .none] = .ok (.int t) := by
      simp only [bnd_ok, gVar_def, gC_def, gOp_def, gUn_def, gNil_def, gCons_def, gIf_def, gTest_def, gNot_def, gAnd_def, gOr_def, gAndV_def, gOrV_def, gNotV_def, gCB_def, asB_b, hAdd_i, hSub_i, hLt_i, hLe_i, hGt_i, hGe_i, hMul_r, hMul_l, hMod_i, hDiv_s, hBand_i, hShr_i, hPow_10_18, hPow_10_27, hPow_10_28, hPow_10_29, hPow_10_30, hEq_i, hNe_i, hLen_l, hLen_t, hMin2_i, hMax2_i, hMin3_i, hInt1_b, hInt1_i, hBits_i, hListOf_l, hListOf_t, hTupOf_l, hTupOf_t, gSeqS_def, gSet_def, gRet_def, gIfS_def, gNext_def, gTup_def, gLst_def, List.getElem?_cons_zero, List.getElem?_cons_succ, List.set_cons_zero, List.set_cons_succ, List.length_cons, List.length_nil, Nat.zero_add, Nat.reduceAdd, Nat.reduceLeDiff, Nat.reduceSub, Nat.reduceMul, if_true, if_false, Bool.false_eq_true, List.replicate_succ, List.replicate_zero, List.cons_append, List.nil_append, tgN, tgT, tgCons, tgNil, Int.reducePow, Int.reduceAdd, Int.reduceSub, Int.reduceMul, decide_true, decide_false, Bool.not_true, Bool.not_false, gChain_def, hIsa_int, hIsa_intb, hIsa_list, hIsa_tuple, gDrop_def, List.length_map, i4, hmod, hix]
    rw [gPur_def, e]
    rfl
  dsimp only [List.set]
  refine seq_step (set_ok (d := .list ((since t r).map enc3)) hlat) ?_
  dsimp only [List.set]
  refine seq_step (set_ok (d := .list (([] : List (List Int)).map encI)) (by rfl)) ?_
  dsimp only [List.set]
  refine seq_step (set_ok (d := .list (([] : List Int).map .int)) (by rfl)) ?_
  dsimp only [List.set]
  refine seq_step hloop ?_
  refine seq_step (set_ok (d := .list (P1.map encP)) ?_) ?_
  · refine lst2 (tup5 rfl rfl rfl rfl) (tup5 rfl rfl rfl (x4 := .list ((WS.map List.reverse).map encI)) ?_)
    have hl := gLc_map encI (fun _ => true) (fun w => encI w.reverse) (gi := gSeq (gVar 9)) (h := tgN 12) (gt := gYes) (ge := gUn hRevL (gVar 12))
      (ρ := [.int n, .list (r.map enc3), .list (N.map .int), .int a, .int b, .list (SM.map .int), .none, .int t, .list ((since t r).map enc3), .list (WS.map encI), .list (U.map .int), y11, y12, .none, .none, .none, .none, .none, .none, .none, .none, .none]) (xs := WS) (seqG_l (by rfl)) (by omega) (fun w _ => ⟨_, rfl, rfl, fun _ => by
        show bnd (.ok (encI w)) hRevL = _
        unfold encI hRevL
        rw [bnd_ok, List.map_reverse]⟩)
    rw [List.filter_eq_self.mpr (fun _ _ => rfl)] at hl
    rw [hl, List.map_map]
    rfl
  dsimp only [List.set]
  refine seq_step (snoc_app (Ps := P1) (p := .ways a b (t + x3 % 3) (WS ++ WS.take 1)) rfl ?_ (by simp [P1])) ?_
  · have hsl : hSl (.list (WS.map encI)) none (some 1) = .ok (.list ((WS.take 1).map encI)) := hSl_to' encI WS (by omega)
    have hc2 := hCat_map encI WS (WS.take 1) (by omega)
    refine tup5 (x1 := .int a) (x2 := .int b) (x3 := .int (t + x3 % 3)) rfl rfl ?_ ?_
    · simp only [bnd_ok, gVar_def, gC_def, gOp_def, gUn_def, gNil_def, gCons_def, gIf_def, gTest_def, gNot_def, gAnd_def, gOr_def, gAndV_def, gOrV_def, gNotV_def, gCB_def, asB_b, hAdd_i, hSub_i, hLt_i, hLe_i, hGt_i, hGe_i, hMul_r, hMul_l, hMod_i, hDiv_s, hBand_i, hShr_i, hPow_10_18, hPow_10_27, hPow_10_28, hPow_10_29, hPow_10_30, hEq_i, hNe_i, hLen_l, hLen_t, hMin2_i, hMax2_i, hMin3_i, hInt1_b, hInt1_i, hBits_i, hListOf_l, hListOf_t, hTupOf_l, hTupOf_t, gSeqS_def, gSet_def, gRet_def, gIfS_def, gNext_def, gTup_def, gLst_def, List.getElem?_cons_zero, List.getElem?_cons_succ, List.set_cons_zero, List.set_cons_succ, List.length_cons, List.length_nil, Nat.zero_add, Nat.reduceAdd, Nat.reduceLeDiff, Nat.reduceSub, Nat.reduceMul, if_true, if_false, Bool.false_eq_true, List.replicate_succ, List.replicate_zero, List.cons_append, List.nil_append, tgN, tgT, tgCons, tgNil, Int.reducePow, Int.reduceAdd, Int.reduceSub, Int.reduceMul, decide_true, decide_false, Bool.not_true, Bool.not_false, gChain_def, hIsa_int, hIsa_intb, hIsa_list, hIsa_tuple, gDrop_def, i3, m33]
    · simp only [bnd_ok, gVar_def, gC_def, gOp_def, gUn_def, gNil_def, gCons_def, gIf_def, gTest_def, gNot_def, gAnd_def, gOr_def, gAndV_def, gOrV_def, gNotV_def, gCB_def, asB_b, hAdd_i, hSub_i, hLt_i, hLe_i, hGt_i, hGe_i, hMul_r, hMul_l, hMod_i, hDiv_s, hBand_i, hShr_i, hPow_10_18, hPow_10_27, hPow_10_28, hPow_10_29, hPow_10_30, hEq_i, hNe_i, hLen_l, hLen_t, hMin2_i, hMax2_i, hMin3_i, hInt1_b, hInt1_i, hBits_i, hListOf_l, hListOf_t, hTupOf_l, hTupOf_t, gSeqS_def, gSet_def, gRet_def, gIfS_def, gNext_def, gTup_def, gLst_def, List.getElem?_cons_zero, List.getElem?_cons_succ, List.set_cons_zero, List.set_cons_succ, List.length_cons, List.length_nil, Nat.zero_add, Nat.reduceAdd, Nat.reduceLeDiff, Nat.reduceSub, Nat.reduceMul, if_true, if_false, Bool.false_eq_true, List.replicate_succ, List.replicate_zero, List.cons_append, List.nil_append, tgN, tgT, tgCons, tgNil, Int.reducePow, Int.reduceAdd, Int.reduceSub, Int.reduceMul, decide_true, decide_false, Bool.not_true, Bool.not_false, gChain_def, hIsa_int, hIsa_intb, hIsa_list, hIsa_tuple, gDrop_def, gCallN_def, gAsg_def, gSl_def, gNoPart_def, gPart_def, hSl_from', hSl_to', hsl, hc2]
  dsimp only [List.set]
  refine seq_step (snoc_app (Ps := P2) (p := .side a b t S) rfl ?_ (by simp [P2, P1])) ?_
  · refine tup5 (x1 := .int a) (x2 := .int b) (x3 := .int t) rfl rfl rfl ?_
    refine callN_ok (ds := [.int n, .int a, .int b, .list (M2.map .int)]) ?_ rfl hS
    simp only [bnd_ok, gVar_def, gC_def, gOp_def, gUn_def, gNil_def, gCons_def, gIf_def, gTest_def, gNot_def, gAnd_def, gOr_def, gAndV_def, gOrV_def, gNotV_def, gCB_def, asB_b, hAdd_i, hSub_i, hLt_i, hLe_i, hGt_i, hGe_i, hMul_r, hMul_l, hMod_i, hDiv_s, hBand_i, hShr_i, hPow_10_18, hPow_10_27, hPow_10_28, hPow_10_29, hPow_10_30, hEq_i, hNe_i, hLen_l, hLen_t, hMin2_i, hMax2_i, hMin3_i, hInt1_b, hInt1_i, hBits_i, hListOf_l, hListOf_t, hTupOf_l, hTupOf_t, gSeqS_def, gSet_def, gRet_def, gIfS_def, gNext_def, gTup_def, gLst_def, List.getElem?_cons_zero, List.getElem?_cons_succ, List.set_cons_zero, List.set_cons_succ, List.length_cons, List.length_nil, Nat.zero_add, Nat.reduceAdd, Nat.reduceLeDiff, Nat.reduceSub, Nat.reduceMul, if_true, if_false, Bool.false_eq_true, List.replicate_succ, List.replicate_zero, List.cons_append, List.nil_append, tgN, tgT, tgCons, tgNil, Int.reducePow, Int.reduceAdd, Int.reduceSub, Int.reduceMul, decide_true, decide_false, Bool.not_true, Bool.not_false, gChain_def, hIsa_int, hIsa_intb, hIsa_list, hIsa_tuple, gDrop_def, gCallN_def, gAsg_def, gSl_def, gNoPart_def, gPart_def, hSl_from', hSl_to', s2]
  dsimp only [List.set]
  refine seq_step (set_ok (d := .list (P4.map encP)) ?_) ?_
  · have hq := hCat_map encP P3 [.ways a (n + b) t [], .ways a b (-1) [], .side a b t [-1, a]] (by simp [P3, P2, P1])
    refine Eq.trans ?_ hq
    rw [gOp_def]
    have e : gLst (gCons (gTup (gCons (gC (.str "ways")) (gCons (gVar 3) (gCons (gOp hAdd (gVar 0) (gVar 4)) (gCons (gVar 7) (gCons (gLst (gNil)) (gNil))))))) (gCons (gTup (gCons (gC (.str "ways")) (gCons (gVar 3) (gCons (gVar 4) (gCons (gUn (hU fun i => -i) (gC (.int (1)))) (gCons (gLst (gNil)) (gNil))))))) (gCons (gTup (gCons (gC (.str "side")) (gCons (gVar 3) (gCons (gVar 4) (gCons (gVar 7) (gCons (gTup (gCons (gUn (hU fun i => -i) (gC (.int (1)))) (gCons (gVar 3) (gNil)))) (gNil))))))) (gNil)))) [.int n, .list (r.map enc3), .list (N.map .int), .int a, .int b, .list (P3.map encP), .none, .int t, .list ((since t r).map enc3), .list (WS.map encI), .list (U.map .int), y11, y12, .none, .none, .none, .none, .none, .none, .none, .none, .none] = .ok (.list ([Pap.ways a (n + b) t [], .ways a b (-1) [], .side a b t [-1, a]].map encP)) := by
      refine lst3 (tup5 (x1 := .int a) (x2 := .int (n + b)) (x3 := .int t) (x4 := .list []) rfl rfl rfl (gLst_nil _)) (tup5 (x1 := .int a) (x2 := .int b) (x3 := .int (-1)) (x4 := .list []) rfl rfl rfl (gLst_nil _)) (tup5 (x1 := .int a) (x2 := .int b) (x3 := .int t) (x4 := .tuple [.int (-1), .int a]) rfl rfl rfl (by rfl))
    rw [e]
    rfl
  dsimp only [List.set]
  refine seq_step (set_ok hnear) ?_
  dsimp only [List.set]
  exact h3
end K58
end T_K58J

section T_K58Q
set_option linter.all false
set_option maxRecDepth 100000
set_option maxHeartbeats 4000000
/-! K58Q: the law. -/
namespace K58
open PySem Sim FamA K59

theorem great_ok {ns : List Int} {x : Int} (h0 : 0 ≤ x) (hns : ∀ y ∈ ns, 0 ≤ y ∧ y < B30) (hl : 2 ≤ ns.length) (hl2 : ns.length ≤ 1000) :
    ∃ ms : List Int, f_l_great [.list (ns.map .int), .int x] = .ok (.list (ms.map .int)) ∧ ms.length = ns.length ∧ ∀ y ∈ ms, 0 ≤ y ∧ y < B30 := by
  by_cases c : x % 4 = 1
  · refine ⟨(ns.take 1 ++ [13 + 104 * (28 + x / 4 % 20)]) ++ ns.drop 2, ?_, ?_, ?_⟩
    · refine fnN_rt ?_
      show g_l_great [.list (ns.map .int), .int x] = _
      unfold g_l_great
      have e : (!(x % 4 == 1)) = false := by simp [c]
      have k1 : hCat (.list ((ns.take 1).map .int)) (.list [.int (13 + 104 * (28 + x / 4 % 20))]) = .ok (.list ((ns.take 1 ++ [13 + 104 * (28 + x / 4 % 20)]).map .int)) := hCat_map PyData.int (ns.take 1) [13 + 104 * (28 + x / 4 % 20)] (by rw [List.length_take, List.length_singleton]; omega)
      have k2 := hCat_map PyData.int (ns.take 1 ++ [13 + 104 * (28 + x / 4 % 20)]) (ns.drop 2) (by rw [List.length_append, List.length_take, List.length_singleton, List.length_drop]; omega)
      have j1 : hMul (.int 104) (.int (28 + x / 4 % 20)) = .ok (.int (104 * (28 + x / 4 % 20))) := hMul_l (by omega) (by omega)
      apply seq_step
      · simp (disch := first | omega | decide) only [bnd_ok, gVar_def, gC_def, gOp_def, gUn_def, gNil_def, gCons_def, gIf_def, gTest_def, gNot_def, gAnd_def, gOr_def, gAndV_def, gOrV_def, gNotV_def, gCB_def, asB_b, hAdd_i, hSub_i, hLt_i, hLe_i, hGt_i, hGe_i, hMul_r, hMul_l, hMod_i, hDiv_s, hBand_i, hShr_i, hPow_10_18, hPow_10_27, hPow_10_28, hPow_10_29, hPow_10_30, hEq_i, hNe_i, hLen_l, hLen_t, hMin2_i, hMax2_i, hMin3_i, hInt1_b, hInt1_i, hBits_i, hListOf_l, hListOf_t, hTupOf_l, hTupOf_t, gSeqS_def, gSet_def, gRet_def, gIfS_def, gNext_def, gTup_def, gLst_def, List.getElem?_cons_zero, List.getElem?_cons_succ, List.set_cons_zero, List.set_cons_succ, List.length_cons, List.length_nil, Nat.zero_add, Nat.reduceAdd, Nat.reduceLeDiff, Nat.reduceSub, Nat.reduceMul, if_true, if_false, Bool.false_eq_true, List.replicate_succ, List.replicate_zero, List.cons_append, List.nil_append, tgN, tgT, tgCons, tgNil, Int.reducePow, Int.reduceAdd, Int.reduceSub, Int.reduceMul, decide_true, decide_false, Bool.not_true, Bool.not_false, gChain_def, hIsa_int, hIsa_intb, hIsa_list, hIsa_tuple, gDrop_def, e]
        rfl
      · simp (disch := first | omega | decide) only [bnd_ok, gVar_def, gC_def, gOp_def, gUn_def, gNil_def, gCons_def, gIf_def, gTest_def, gNot_def, gAnd_def, gOr_def, gAndV_def, gOrV_def, gNotV_def, gCB_def, asB_b, hAdd_i, hSub_i, hLt_i, hLe_i, hGt_i, hGe_i, hMul_r, hMul_l, hMod_i, hDiv_s, hBand_i, hShr_i, hPow_10_18, hPow_10_27, hPow_10_28, hPow_10_29, hPow_10_30, hEq_i, hNe_i, hLen_l, hLen_t, hMin2_i, hMax2_i, hMin3_i, hInt1_b, hInt1_i, hBits_i, hListOf_l, hListOf_t, hTupOf_l, hTupOf_t, gSeqS_def, gSet_def, gRet_def, gIfS_def, gNext_def, gTup_def, gLst_def, List.getElem?_cons_zero, List.getElem?_cons_succ, List.set_cons_zero, List.set_cons_succ, List.length_cons, List.length_nil, Nat.zero_add, Nat.reduceAdd, Nat.reduceLeDiff, Nat.reduceSub, Nat.reduceMul, if_true, if_false, Bool.false_eq_true, List.replicate_succ, List.replicate_zero, List.cons_append, List.nil_append, tgN, tgT, tgCons, tgNil, Int.reducePow, Int.reduceAdd, Int.reduceSub, Int.reduceMul, decide_true, decide_false, Bool.not_true, Bool.not_false, gChain_def, hIsa_int, hIsa_intb, hIsa_list, hIsa_tuple, gDrop_def, gCallN_def, gAsg_def, gSl_def, gNoPart_def, gPart_def, hSl_from', hSl_to', j1, Int.reduceToNat, k1, k2]
    · rw [List.length_append, List.length_append, List.length_take, List.length_singleton, List.length_drop]; omega
    · intro y hy
      rcases List.mem_append.mp hy with hy | hy
      · rcases List.mem_append.mp hy with hy | hy
        · exact hns y (List.mem_of_mem_take hy)
        · rw [List.mem_singleton.mp hy]
          unfold B30
          omega
      · exact hns y (List.mem_of_mem_drop hy)
  · refine ⟨ns, ?_, rfl, hns⟩
    refine fnN_rt ?_
    show g_l_great [.list (ns.map .int), .int x] = _
    unfold g_l_great
    have e : (!(x % 4 == 1)) = true := by simp [c]
    refine seq_rt ?_
    simp (disch := first | omega | decide) only [bnd_ok, gVar_def, gC_def, gOp_def, gUn_def, gNil_def, gCons_def, gIf_def, gTest_def, gNot_def, gAnd_def, gOr_def, gAndV_def, gOrV_def, gNotV_def, gCB_def, asB_b, hAdd_i, hSub_i, hLt_i, hLe_i, hGt_i, hGe_i, hMul_r, hMul_l, hMod_i, hDiv_s, hBand_i, hShr_i, hPow_10_18, hPow_10_27, hPow_10_28, hPow_10_29, hPow_10_30, hEq_i, hNe_i, hLen_l, hLen_t, hMin2_i, hMax2_i, hMin3_i, hInt1_b, hInt1_i, hBits_i, hListOf_l, hListOf_t, hTupOf_l, hTupOf_t, gSeqS_def, gSet_def, gRet_def, gIfS_def, gNext_def, gTup_def, gLst_def, List.getElem?_cons_zero, List.getElem?_cons_succ, List.set_cons_zero, List.set_cons_succ, List.length_cons, List.length_nil, Nat.zero_add, Nat.reduceAdd, Nat.reduceLeDiff, Nat.reduceSub, Nat.reduceMul, if_true, if_false, Bool.false_eq_true, List.replicate_succ, List.replicate_zero, List.cons_append, List.nil_append, tgN, tgT, tgCons, tgNil, Int.reducePow, Int.reduceAdd, Int.reduceSub, Int.reduceMul, decide_true, decide_false, Bool.not_true, Bool.not_false, gChain_def, hIsa_int, hIsa_intb, hIsa_list, hIsa_tuple, gDrop_def, e]

theorem hNe_enc (r : List T3) : hNe (.list (r.map enc3)) (.list (r.map enc3)) = .ok (.bool false) := hNe_self ((shp3s r 0).shaped (by omega))
theorem paper_ok {n : Int} {r : List T3} {N : List Int} {x17 : Int} (ho : r.Pairwise fun s t => s.1 < t.1) (hl : r.length ≤ 60) (h17 : hIx (.list (N.map .int)) (.int 17) = .ok (.int x17)) {p : Pap} (hp : p.Ok) (sc cell d6 : Dt) :
    g_law_L1 [sc, cell, .list (N.map .int), .int n, .list (r.map enc3), encP p, d6] = .ok (.nx [sc, cell, .list (N.map .int), .int n, .list (r.map enc3), encP p, .list (r.map enc3)]) := by
  obtain ⟨Q, hQ, hQj⟩ := oddP_ok (n := n) (k := x17) (r := r) (by omega) p
  have hj := judgedP_ok (n := n) ho hl hp
  have hd := dueP_ok (n := n) ho hl hp
  have hne := hNe_self (dueP_shaped n r p)
  generalize dueP n r p = X at *
  generalize encP p = P at *
  unfold g_law_L1
  refine seq_step (set_ok (d := .list (r.map enc3)) (by rfl)) ?_
  dsimp only [List.set]
  have cj : gCallN 3 f_l_judged (gCons (gVar 3) (gCons (gVar 6) (gCons (gVar 5) (gNil)))) [sc, cell, .list (N.map .int), .int n, .list (r.map enc3), P, .list (r.map enc3)] = .ok X := callN_ok (ds := [.int n, .list (r.map enc3), P]) rfl rfl hj
  have cd : gCallN 3 f_l_due (gCons (gVar 3) (gCons (gVar 4) (gCons (gVar 5) (gNil)))) [sc, cell, .list (N.map .int), .int n, .list (r.map enc3), P, .list (r.map enc3)] = .ok X := callN_ok (ds := [.int n, .list (r.map enc3), P]) rfl rfl hd
  have t1 : gTest (gOp hNe (gCallN 3 f_l_judged (gCons (gVar 3) (gCons (gVar 6) (gCons (gVar 5) (gNil))))) (gCallN 3 f_l_due (gCons (gVar 3) (gCons (gVar 4) (gCons (gVar 5) (gNil)))))) [sc, cell, .list (N.map .int), .int n, .list (r.map enc3), P, .list (r.map enc3)] = .ok false := by
    rw [gTest_def, gOp_def, cj, cd, bnd_ok, bnd_ok, hne]
    rfl
  have t2 : gTest (gOp hNe (gVar 6) (gVar 4)) [sc, cell, .list (N.map .int), .int n, .list (r.map enc3), P, .list (r.map enc3)] = .ok false := by
    have := hNe_enc r
    simp only [bnd_ok, gVar_def, gC_def, gOp_def, gUn_def, gNil_def, gCons_def, gIf_def, gTest_def, gNot_def, gAnd_def, gOr_def, gAndV_def, gOrV_def, gNotV_def, gCB_def, asB_b, hAdd_i, hSub_i, hLt_i, hLe_i, hGt_i, hGe_i, hMul_r, hMul_l, hMod_i, hDiv_s, hBand_i, hShr_i, hPow_10_18, hPow_10_27, hPow_10_28, hPow_10_29, hPow_10_30, hEq_i, hNe_i, hLen_l, hLen_t, hMin2_i, hMax2_i, hMin3_i, hInt1_b, hInt1_i, hBits_i, hListOf_l, hListOf_t, hTupOf_l, hTupOf_t, gSeqS_def, gSet_def, gRet_def, gIfS_def, gNext_def, gTup_def, gLst_def, List.getElem?_cons_zero, List.getElem?_cons_succ, List.set_cons_zero, List.set_cons_succ, List.length_cons, List.length_nil, Nat.zero_add, Nat.reduceAdd, Nat.reduceLeDiff, Nat.reduceSub, Nat.reduceMul, if_true, if_false, Bool.false_eq_true, List.replicate_succ, List.replicate_zero, List.cons_append, List.nil_append, tgN, tgT, tgCons, tgNil, Int.reducePow, Int.reduceAdd, Int.reduceSub, Int.reduceMul, decide_true, decide_false, Bool.not_true, Bool.not_false, gChain_def, hIsa_int, hIsa_intb, hIsa_list, hIsa_tuple, gDrop_def, this]
  refine seq_step ((if_f (by rw [gOr_def, t1, t2]; rfl)).trans rfl) ?_
  have co : gCallN 2 f_l_odd (gCons (gVar 5) (gCons (gOp hIx (gVar 2) (gC (.int (17)))) (gNil))) [sc, cell, .list (N.map .int), .int n, .list (r.map enc3), P, .list (r.map enc3)] = .ok Q := callN_ok (ds := [P, .int x17]) (by simp only [bnd_ok, gVar_def, gC_def, gOp_def, gUn_def, gNil_def, gCons_def, gIf_def, gTest_def, gNot_def, gAnd_def, gOr_def, gAndV_def, gOrV_def, gNotV_def, gCB_def, asB_b, hAdd_i, hSub_i, hLt_i, hLe_i, hGt_i, hGe_i, hMul_r, hMul_l, hMod_i, hDiv_s, hBand_i, hShr_i, hPow_10_18, hPow_10_27, hPow_10_28, hPow_10_29, hPow_10_30, hEq_i, hNe_i, hLen_l, hLen_t, hMin2_i, hMax2_i, hMin3_i, hInt1_b, hInt1_i, hBits_i, hListOf_l, hListOf_t, hTupOf_l, hTupOf_t, gSeqS_def, gSet_def, gRet_def, gIfS_def, gNext_def, gTup_def, gLst_def, List.getElem?_cons_zero, List.getElem?_cons_succ, List.set_cons_zero, List.set_cons_succ, List.length_cons, List.length_nil, Nat.zero_add, Nat.reduceAdd, Nat.reduceLeDiff, Nat.reduceSub, Nat.reduceMul, if_true, if_false, Bool.false_eq_true, List.replicate_succ, List.replicate_zero, List.cons_append, List.nil_append, tgN, tgT, tgCons, tgNil, Int.reducePow, Int.reduceAdd, Int.reduceSub, Int.reduceMul, decide_true, decide_false, Bool.not_true, Bool.not_false, gChain_def, hIsa_int, hIsa_intb, hIsa_list, hIsa_tuple, gDrop_def, h17]) rfl hQ
  have cq : gCallN 3 f_l_judged (gCons (gVar 3) (gCons (gVar 6) (gCons (gCallN 2 f_l_odd (gCons (gVar 5) (gCons (gOp hIx (gVar 2) (gC (.int (17)))) (gNil)))) (gNil)))) [sc, cell, .list (N.map .int), .int n, .list (r.map enc3), P, .list (r.map enc3)] = .ok .none :=
    callN_ok (ds := [.int n, .list (r.map enc3), Q]) (by rw [gCons_def, gCons_def, gCons_def, co]; rfl) rfl hQj
  refine (if_f ?_).trans rfl
  rw [gTest_def, gOp_def, cq]
  rfl
theorem body_ok (sc : Dt) (cell : Int) (d2 d3 d4 d5 d6 : Dt) :
    ∃ e2 e3 e4 e5 e6, g_law_L2 [sc, .int cell, d2, d3, d4, d5, d6] = .ok (.nx [sc, .int cell, e2, e3, e4, e5, e6]) := by
  obtain ⟨N, hN, lN, bN⟩ := numbers_ok cell 202 (by omega) (by omega)
  have hN : f_l_numbers [.int cell, .int 202, .int 1000000000000000000000000000000] = .ok (.list (N.map .int)) := hN
  have lN : N.length = 202 := lN
  obtain ⟨x13, i13, b13⟩ := ix_ok bN (i := 13) (by omega) (by omega)
  obtain ⟨x17, i17, b17⟩ := ix_ok bN (i := 17) (by omega) (by omega)
  have bD : ∀ y ∈ N.drop 18, 0 ≤ y ∧ y < B30 := fun x hx => bN x (List.mem_of_mem_drop hx)
  have lD : (N.drop 18).length = 184 := by rw [List.length_drop]; omega
  obtain ⟨ms, hg, lms, bms⟩ := great_ok (x := x13) b13.1 bD (by omega) (by omega)
  obtain ⟨n, r, hR, n1, n10, hrec, hr60⟩ := record_ok (ns := ms) (most := 60) bms (by omega) (by omega) (by omega) (by omega)
  have hr60 : r.length ≤ 60 := by omega
  have ho := hrec.ord
  obtain ⟨Ps, hP, hPl, hpap⟩ := papers_ok (N := N.take 17) ho hr60 (by rw [List.length_take]; omega) n1 n10
  obtain ⟨ρ', hf, e5, e6, rfl⟩ := forE_ix encP (h := tgN 5) (b := g_law_L1) Ps
    (fun _ ρ => ∃ e5 e6, ρ = [sc, .int cell, .list (N.map .int), .int n, .list (r.map enc3), e5, e6])
    (ρ := [sc, .int cell, .list (N.map .int), .int n, .list (r.map enc3), d5, d6]) ⟨_, _, rfl⟩ (by
      rintro i ρ hi ⟨e5, e6, rfl⟩
      exact ⟨_, _, rfl, .inl (paper_ok ho hr60 i17 (hP _ (List.getElem_mem hi)) sc (.int cell) e6), _, _, rfl⟩)
  refine ⟨.list (N.map .int), .int n, .list (r.map enc3), e5, e6, ?_⟩
  unfold g_law_L2
  refine seq_step (set_ok (d := .list (N.map .int)) (callN_ok (ds := [.int cell, .int 202, .int 1000000000000000000000000000000]) (by simp only [bnd_ok, gVar_def, gC_def, gOp_def, gUn_def, gNil_def, gCons_def, gIf_def, gTest_def, gNot_def, gAnd_def, gOr_def, gAndV_def, gOrV_def, gNotV_def, gCB_def, asB_b, hAdd_i, hSub_i, hLt_i, hLe_i, hGt_i, hGe_i, hMul_r, hMul_l, hMod_i, hDiv_s, hBand_i, hShr_i, hPow_10_18, hPow_10_27, hPow_10_28, hPow_10_29, hPow_10_30, hEq_i, hNe_i, hLen_l, hLen_t, hMin2_i, hMax2_i, hMin3_i, hInt1_b, hInt1_i, hBits_i, hListOf_l, hListOf_t, hTupOf_l, hTupOf_t, gSeqS_def, gSet_def, gRet_def, gIfS_def, gNext_def, gTup_def, gLst_def, List.getElem?_cons_zero, List.getElem?_cons_succ, List.set_cons_zero, List.set_cons_succ, List.length_cons, List.length_nil, Nat.zero_add, Nat.reduceAdd, Nat.reduceLeDiff, Nat.reduceSub, Nat.reduceMul, if_true, if_false, Bool.false_eq_true, List.replicate_succ, List.replicate_zero, List.cons_append, List.nil_append, tgN, tgT, tgCons, tgNil, Int.reducePow, Int.reduceAdd, Int.reduceSub, Int.reduceMul, decide_true, decide_false, Bool.not_true, Bool.not_false, gChain_def, hIsa_int, hIsa_intb, hIsa_list, hIsa_tuple, gDrop_def]) rfl hN)) ?_
  dsimp only [List.set]
  have hfr : hSl (.list (N.map .int)) (some 18) none = .ok (.list ((N.drop 18).map .int)) := hSl_from' PyData.int N (by omega)
  have hto : hSl (.list (N.map .int)) none (some 17) = .ok (.list ((N.take 17).map .int)) := hSl_to' PyData.int N (by omega)
  have cg : gCallN 2 f_l_great (gCons (gSl hSl (gVar 2) (gPart (gC (.int (18)))) (gNoPart)) (gCons (gOp hIx (gVar 2) (gC (.int (13)))) (gNil))) [sc, .int cell, .list (N.map .int), d3, d4, d5, d6] = .ok (.list (ms.map .int)) :=
    callN_ok (ds := [.list ((N.drop 18).map .int), .int x13]) (by simp only [bnd_ok, gVar_def, gC_def, gOp_def, gUn_def, gNil_def, gCons_def, gIf_def, gTest_def, gNot_def, gAnd_def, gOr_def, gAndV_def, gOrV_def, gNotV_def, gCB_def, asB_b, hAdd_i, hSub_i, hLt_i, hLe_i, hGt_i, hGe_i, hMul_r, hMul_l, hMod_i, hDiv_s, hBand_i, hShr_i, hPow_10_18, hPow_10_27, hPow_10_28, hPow_10_29, hPow_10_30, hEq_i, hNe_i, hLen_l, hLen_t, hMin2_i, hMax2_i, hMin3_i, hInt1_b, hInt1_i, hBits_i, hListOf_l, hListOf_t, hTupOf_l, hTupOf_t, gSeqS_def, gSet_def, gRet_def, gIfS_def, gNext_def, gTup_def, gLst_def, List.getElem?_cons_zero, List.getElem?_cons_succ, List.set_cons_zero, List.set_cons_succ, List.length_cons, List.length_nil, Nat.zero_add, Nat.reduceAdd, Nat.reduceLeDiff, Nat.reduceSub, Nat.reduceMul, if_true, if_false, Bool.false_eq_true, List.replicate_succ, List.replicate_zero, List.cons_append, List.nil_append, tgN, tgT, tgCons, tgNil, Int.reducePow, Int.reduceAdd, Int.reduceSub, Int.reduceMul, decide_true, decide_false, Bool.not_true, Bool.not_false, gChain_def, hIsa_int, hIsa_intb, hIsa_list, hIsa_tuple, gDrop_def, gCallN_def, gAsg_def, gSl_def, gNoPart_def, gPart_def, hSl_from', hSl_to', hfr, i13]) rfl hg
  refine seq_step (asg_ok (d := .tuple [.int n, .list (r.map enc3)]) (ρ' := [sc, .int cell, .list (N.map .int), .int n, .list (r.map enc3), d5, d6]) (callN_ok (ds := [.list (ms.map .int), .int 60]) (by rw [gCons_def, cg]; rfl) rfl hR) (by rfl)) ?_
  have cp : gCallN 3 f_l_papers (gCons (gVar 3) (gCons (gVar 4) (gCons (gSl hSl (gVar 2) (gNoPart) (gPart (gC (.int (17))))) (gNil)))) [sc, .int cell, .list (N.map .int), .int n, .list (r.map enc3), d5, d6] = .ok (.list (Ps.map encP)) :=
    callN_ok (ds := [.int n, .list (r.map enc3), .list ((N.take 17).map .int)]) (by simp only [bnd_ok, gVar_def, gC_def, gOp_def, gUn_def, gNil_def, gCons_def, gIf_def, gTest_def, gNot_def, gAnd_def, gOr_def, gAndV_def, gOrV_def, gNotV_def, gCB_def, asB_b, hAdd_i, hSub_i, hLt_i, hLe_i, hGt_i, hGe_i, hMul_r, hMul_l, hMod_i, hDiv_s, hBand_i, hShr_i, hPow_10_18, hPow_10_27, hPow_10_28, hPow_10_29, hPow_10_30, hEq_i, hNe_i, hLen_l, hLen_t, hMin2_i, hMax2_i, hMin3_i, hInt1_b, hInt1_i, hBits_i, hListOf_l, hListOf_t, hTupOf_l, hTupOf_t, gSeqS_def, gSet_def, gRet_def, gIfS_def, gNext_def, gTup_def, gLst_def, List.getElem?_cons_zero, List.getElem?_cons_succ, List.set_cons_zero, List.set_cons_succ, List.length_cons, List.length_nil, Nat.zero_add, Nat.reduceAdd, Nat.reduceLeDiff, Nat.reduceSub, Nat.reduceMul, if_true, if_false, Bool.false_eq_true, List.replicate_succ, List.replicate_zero, List.cons_append, List.nil_append, tgN, tgT, tgCons, tgNil, Int.reducePow, Int.reduceAdd, Int.reduceSub, Int.reduceMul, decide_true, decide_false, Bool.not_true, Bool.not_false, gChain_def, hIsa_int, hIsa_intb, hIsa_list, hIsa_tuple, gDrop_def, gCallN_def, gAsg_def, gSl_def, gNoPart_def, gPart_def, hSl_from', hSl_to', hto]) rfl hpap
  exact for_ok (seqG_l cp) hf
theorem law_true (ns : List Int) (hl : ns.length ≤ 63) (_ : ∀ z ∈ ns, Builtin.Int.intBits z ≤ 1048576) : f_law [.list (ns.map .int)] = .ok (.bool true) := by
  refine fnN_rt ?_
  obtain ⟨ρ', hf, e1, e2, e3, e4, e5, e6, rfl⟩ := forE_ix PyData.int (h := tgN 1) (b := g_law_L2) (ns.take 6 ++ [(ns.length : Int)])
    (fun _ ρ => ∃ e1 e2 e3 e4 e5 e6, ρ = [.list (ns.map .int), e1, e2, e3, e4, e5, e6])
    (ρ := [.list (ns.map .int), .none, .none, .none, .none, .none, .none]) ⟨_, _, _, _, _, _, rfl⟩ (by
      rintro i ρ hi ⟨e1, e2, e3, e4, e5, e6, rfl⟩
      obtain ⟨f2, f3, f4, f5, f6, h1⟩ := body_ok (.list (ns.map .int)) (ns.take 6 ++ [(ns.length : Int)])[i] e2 e3 e4 e5 e6
      exact ⟨_, _, rfl, .inl h1, _, f2, f3, f4, f5, f6, rfl⟩)
  show g_law [.list (ns.map .int), .none, .none, .none, .none, .none, .none] = _
  unfold g_law
  have hc : hCat (.list ((ns.take 6).map .int)) (.list [.int ns.length]) = .ok (.list ((ns.take 6 ++ [(ns.length : Int)]).map .int)) := hCat_map PyData.int (ns.take 6) [(ns.length : Int)] (by rw [List.length_take, List.length_singleton]; omega)
  refine seq_step (for_ok (ds := (ns.take 6 ++ [(ns.length : Int)]).map .int) (seqG_l ?_) hf) ?_
  · simp (disch := first | omega | decide) only [bnd_ok, gVar_def, gC_def, gOp_def, gUn_def, gNil_def, gCons_def, gIf_def, gTest_def, gNot_def, gAnd_def, gOr_def, gAndV_def, gOrV_def, gNotV_def, gCB_def, asB_b, hAdd_i, hSub_i, hLt_i, hLe_i, hGt_i, hGe_i, hMul_r, hMul_l, hMod_i, hDiv_s, hBand_i, hShr_i, hPow_10_18, hPow_10_27, hPow_10_28, hPow_10_29, hPow_10_30, hEq_i, hNe_i, hLen_l, hLen_t, hMin2_i, hMax2_i, hMin3_i, hInt1_b, hInt1_i, hBits_i, hListOf_l, hListOf_t, hTupOf_l, hTupOf_t, gSeqS_def, gSet_def, gRet_def, gIfS_def, gNext_def, gTup_def, gLst_def, List.getElem?_cons_zero, List.getElem?_cons_succ, List.set_cons_zero, List.set_cons_succ, List.length_cons, List.length_nil, Nat.zero_add, Nat.reduceAdd, Nat.reduceLeDiff, Nat.reduceSub, Nat.reduceMul, if_true, if_false, Bool.false_eq_true, List.replicate_succ, List.replicate_zero, List.cons_append, List.nil_append, tgN, tgT, tgCons, tgNil, Int.reducePow, Int.reduceAdd, Int.reduceSub, Int.reduceMul, decide_true, decide_false, Bool.not_true, Bool.not_false, gChain_def, hIsa_int, hIsa_intb, hIsa_list, hIsa_tuple, gDrop_def, gCallN_def, gAsg_def, gSl_def, gNoPart_def, gPart_def, hSl_from', hSl_to', Int.reduceToNat, List.length_map, hc]
  · simp only [bnd_ok, gVar_def, gC_def, gOp_def, gUn_def, gNil_def, gCons_def, gIf_def, gTest_def, gNot_def, gAnd_def, gOr_def, gAndV_def, gOrV_def, gNotV_def, gCB_def, asB_b, hAdd_i, hSub_i, hLt_i, hLe_i, hGt_i, hGe_i, hMul_r, hMul_l, hMod_i, hDiv_s, hBand_i, hShr_i, hPow_10_18, hPow_10_27, hPow_10_28, hPow_10_29, hPow_10_30, hEq_i, hNe_i, hLen_l, hLen_t, hMin2_i, hMax2_i, hMin3_i, hInt1_b, hInt1_i, hBits_i, hListOf_l, hListOf_t, hTupOf_l, hTupOf_t, gSeqS_def, gSet_def, gRet_def, gIfS_def, gNext_def, gTup_def, gLst_def, List.getElem?_cons_zero, List.getElem?_cons_succ, List.set_cons_zero, List.set_cons_succ, List.length_cons, List.length_nil, Nat.zero_add, Nat.reduceAdd, Nat.reduceLeDiff, Nat.reduceSub, Nat.reduceMul, if_true, if_false, Bool.false_eq_true, List.replicate_succ, List.replicate_zero, List.cons_append, List.nil_append, tgN, tgT, tgCons, tgNil, Int.reducePow, Int.reduceAdd, Int.reduceSub, Int.reduceMul, decide_true, decide_false, Bool.not_true, Bool.not_false, gChain_def, hIsa_int, hIsa_intb, hIsa_list, hIsa_tuple, gDrop_def]
end K58
end T_K58Q
open PySem PySem.W PyProof.Rows
set_option maxRecDepth 100000 in
set_option maxHeartbeats 0 in
theorem PySem.Challenge.cw_sinceply_k58_papers_judged_holds : PySem.Challenge.rw_sinceply_k58_papers_judged.Holds := by
  w_on; o_law; k_head; (case hw => w_witness2)
  k_fill
  refine L2.walk_ofB (l := PySem.Challenge.rw_sinceply_k58_papers_judged) (n := 63) (k := 7) (x := "script") (CX := fun _ => L2.CX0) (sp := fun w => Sim.spLaw _ K58.f_law) rfl (by decide) rfl ⟨rfl, by decide, by decide⟩ (fun w h Y => PySem.W.kIn_of Y) ?F (fun _ _ a ns hl hb _ hS => Sim.spLaw_of hS (K58.law_true ns hl hb)) (fun _ _ _ _ _ h => h)
  case F =>
    intro w mg fa h KX G hmg
    refine' Sim.okLaw_of (K58.all_mk KX G hmg ?a0 ?l0 ?c0 ?k0 ?a1 ?l1 ?c1 ?k1 ?a2 ?l2 ?c2 ?k2 ?a3 ?l3 ?c3 ?k3 ?a4 ?l4 ?c4 ?k4 ?a5 ?l5 ?c5 ?k5 ?a6 ?l6 ?c6 ?k6 ?a7 ?l7 ?c7 ?k7 ?a8 ?l8 ?c8 ?k8 ?a9 ?l9 ?c9 ?k9 ?a10 ?l10 ?c10 ?k10 ?a11 ?l11 ?c11 ?k11 ?a12 ?l12 ?c12 ?k12 ?a13 ?l13 ?c13 ?k13 ?a14 ?l14 ?c14 ?k14 ?a15 ?l15 ?c15 ?k15 ?a16 ?l16 ?c16 ?k16 ?a17 ?l17 ?c17 ?k17 ?a18 ?l18 ?c18 ?k18 ?a19 ?l19 ?c19 ?k19 ?a20 ?l20 ?c20 ?k20 ?a21 ?l21 ?c21 ?k21 ?a22 ?l22 ?c22 ?k22 ?a23 ?l23 ?c23 ?k23 ?a24 ?l24 ?c24 ?k24 ?a25 ?l25 ?c25 ?k25 ?z_isinstance ?z_int ?z_bool ?z_list ?z_all ?z_len ?z_tuple ?z_range ?z_min ?z_max ?z_set ?z_sorted ?z_ValueError ?u1_NoPaper ?u2_NoPaper ?u3_NoPaper ?u4_NoPaper ?u5_NoPaper ?u6_NoPaper ?u7_NoPaper ?u8_NoPaper ?u9_NoPaper ?uQ_NoPaper ?u1_PlyError ?u2_PlyError ?u3_PlyError ?u4_PlyError ?u5_PlyError ?u6_PlyError ?u7_PlyError ?u8_PlyError ?u9_PlyError ?u1_Unlike ?u2_Unlike ?u3_Unlike ?u4_Unlike ?u5_Unlike ?u6_Unlike ?u7_Unlike ?u8_Unlike ?u9_Unlike ?u1_NoTies ?u2_NoTies ?u3_NoTies ?u4_NoTies ?u5_NoTies ?u6_NoTies ?u7_NoTies ?u8_NoTies ?u9_NoTies ?u1_NoText ?u2_NoText ?u3_NoText ?u4_NoText ?u5_NoText ?u6_NoText ?u7_NoText ?u8_NoText ?u9_NoText ?u1_NoPair ?u2_NoPair ?u3_NoPair ?u4_NoPair ?u5_NoPair ?u6_NoPair ?u7_NoPair ?u8_NoPair ?u9_NoPair ?u1_NoNet ?u2_NoNet ?u3_NoNet ?u4_NoNet ?u5_NoNet ?u6_NoNet ?u7_NoNet ?u8_NoNet ?u9_NoNet ?u1_Clash ?u2_Clash ?u3_Clash ?u4_Clash ?u5_Clash ?u6_Clash ?u7_Clash ?u8_Clash ?u9_Clash ?un ?ut ?uS_NoPaper_PlyError ?uS_NoPaper_NoPaper ?uS_NoPaper_ValueError ?uS_NoPaper_Unlike ?uS_NoPaper_NoTies ?uS_NoPaper_NoText ?uS_NoPaper_NoPair ?uS_NoPaper_NoNet ?uS_NoPaper_Clash)
    (case a0 => k_is); (case l0 => k_is); (case c0 => k_is); (case k0 => k_is); (case a1 => k_is); (case l1 => k_is); (case c1 => k_is); (case k1 => k_is); (case a2 => k_is); (case l2 => k_is); (case c2 => k_is); (case k2 => k_is); (case a3 => k_is); (case l3 => k_is); (case c3 => k_is); (case k3 => k_is); (case a4 => k_is); (case l4 => k_is); (case c4 => k_is); (case k4 => k_is); (case a5 => k_is); (case l5 => k_is); (case c5 => k_is); (case k5 => k_is); (case a6 => k_is); (case l6 => k_is); (case c6 => k_is); (case k6 => k_is); (case a7 => k_is); (case l7 => k_is); (case c7 => k_is); (case k7 => k_is); (case a8 => k_is); (case l8 => k_is); (case c8 => k_is); (case k8 => k_is); (case a9 => k_is); (case l9 => k_is); (case c9 => k_is); (case k9 => k_is); (case a10 => k_is); (case l10 => k_is); (case c10 => k_is); (case k10 => k_is); (case a11 => k_is); (case l11 => k_is); (case c11 => k_is); (case k11 => k_is); (case a12 => k_is); (case l12 => k_is); (case c12 => k_is); (case k12 => k_is); (case a13 => k_is); (case l13 => k_is); (case c13 => k_is); (case k13 => k_is); (case a14 => k_is); (case l14 => k_is); (case c14 => k_is); (case k14 => k_is); (case a15 => k_is); (case l15 => k_is); (case c15 => k_is); (case k15 => k_is); (case a16 => k_is); (case l16 => k_is); (case c16 => k_is); (case k16 => k_is); (case a17 => k_is); (case l17 => k_is); (case c17 => k_is); (case k17 => k_is); (case a18 => k_is); (case l18 => k_is); (case c18 => k_is); (case k18 => k_is); (case a19 => k_is); (case l19 => k_is); (case c19 => k_is); (case k19 => k_is); (case a20 => k_is); (case l20 => k_is); (case c20 => k_is); (case k20 => k_is); (case a21 => k_is); (case l21 => k_is); (case c21 => k_is); (case k21 => k_is); (case a22 => k_is); (case l22 => k_is); (case c22 => k_is); (case k22 => k_is); (case a23 => k_is); (case l23 => k_is); (case c23 => k_is); (case k23 => k_is); (case a24 => k_is); (case l24 => k_is); (case c24 => k_is); (case k24 => k_is); (case a25 => k_is); (case l25 => k_is); (case c25 => k_is); (case k25 => k_is); (case z_isinstance => k_is); (case z_int => k_is); (case z_bool => k_is); (case z_list => k_is); (case z_all => k_is); (case z_len => k_is); (case z_tuple => k_is); (case z_range => k_is); (case z_min => k_is); (case z_max => k_is); (case z_set => k_is); (case z_sorted => k_is); (case z_ValueError => k_is); (case u1_NoPaper => k_is); (case u2_NoPaper => k_is); (case u3_NoPaper => k_is); (case u4_NoPaper => k_is); (case u5_NoPaper => k_is); (case u6_NoPaper => k_is); (case u7_NoPaper => k_is); (case u8_NoPaper => k_is); (case u9_NoPaper => k_is); (case uQ_NoPaper => k_exc); (case u1_PlyError => k_is); (case u2_PlyError => k_is); (case u3_PlyError => k_is); (case u4_PlyError => k_is); (case u5_PlyError => k_is); (case u6_PlyError => k_is); (case u7_PlyError => k_is); (case u8_PlyError => k_is); (case u9_PlyError => k_is); (case u1_Unlike => k_is); (case u2_Unlike => k_is); (case u3_Unlike => k_is); (case u4_Unlike => k_is); (case u5_Unlike => k_is); (case u6_Unlike => k_is); (case u7_Unlike => k_is); (case u8_Unlike => k_is); (case u9_Unlike => k_is); (case u1_NoTies => k_is); (case u2_NoTies => k_is); (case u3_NoTies => k_is); (case u4_NoTies => k_is); (case u5_NoTies => k_is); (case u6_NoTies => k_is); (case u7_NoTies => k_is); (case u8_NoTies => k_is); (case u9_NoTies => k_is); (case u1_NoText => k_is); (case u2_NoText => k_is); (case u3_NoText => k_is); (case u4_NoText => k_is); (case u5_NoText => k_is); (case u6_NoText => k_is); (case u7_NoText => k_is); (case u8_NoText => k_is); (case u9_NoText => k_is); (case u1_NoPair => k_is); (case u2_NoPair => k_is); (case u3_NoPair => k_is); (case u4_NoPair => k_is); (case u5_NoPair => k_is); (case u6_NoPair => k_is); (case u7_NoPair => k_is); (case u8_NoPair => k_is); (case u9_NoPair => k_is); (case u1_NoNet => k_is); (case u2_NoNet => k_is); (case u3_NoNet => k_is); (case u4_NoNet => k_is); (case u5_NoNet => k_is); (case u6_NoNet => k_is); (case u7_NoNet => k_is); (case u8_NoNet => k_is); (case u9_NoNet => k_is); (case u1_Clash => k_is); (case u2_Clash => k_is); (case u3_Clash => k_is); (case u4_Clash => k_is); (case u5_Clash => k_is); (case u6_Clash => k_is); (case u7_Clash => k_is); (case u8_Clash => k_is); (case u9_Clash => k_is); (case un => k_is); (case ut => k_is); (case uS_NoPaper_PlyError => k_is); (case uS_NoPaper_NoPaper => k_is); (case uS_NoPaper_ValueError => k_is); (case uS_NoPaper_Unlike => k_is); (case uS_NoPaper_NoTies => k_is); (case uS_NoPaper_NoText => k_is); (case uS_NoPaper_NoPair => k_is); (case uS_NoPaper_NoNet => k_is); (case uS_NoPaper_Clash => k_is)
