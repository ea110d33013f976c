import PyProof.Rows.All
import Wide.All
import OpenK.AllK
import Wide.FinOn
import HandS.EndBits
import HandS.ForMost
import HandS.Walk
import HandS.Wide
import HandS.ForExc
import HandS.ExcValue
import HandS.SortInts
import HandS.Deep
import HandS.WideBits
import HandS.TupAny
import HandS.IsInst
import HandS.Iter
import HandS.Rev
import HandS.RevTup
import HandS.Conv
import PyProof.ListRange
import HandS.Dict
import HandS.Style
import HandS.TupSets
import PyProof.ZipIter
import HandS.SetFor
import HandS.ExcIs
import PySem.Challenge.RW_sinceply_k13_layers_refused
section T_SimA
set_option Elab.async false
set_option linter.all false
set_option maxRecDepth 100000
/-! SimA: a plain functional reading (closures over PyData) of the hand layer's readings. -/
namespace Sim
open PySem PySem.Spec L2
open PyProof.Rows hiding St

abbrev Dt := PyData

/-! ### what stands for a datum -/
def Fz (K : PySem.W.Frag) (H : Hp) (a : Addr) (xs : List V) : Prop :=
  (∃ o, H a = some (.frz o (.lst xs))) ∨
    ∃ (o : Obj) (its : Array Value) (n : Nat), K.lookup a = some o ∧ o.cls = .type "list" ∧ o.dict = none ∧ o.data = .seq its n ∧ its.size ≤ sizeLine ∧ Vals xs its.toList

def keyD : Key → Dt
  | .inl i => .int i
  | .inr x => .str x
/-- a caught exception as a datum: its class's name, its moment if it has one -/
abbrev exnM : Option Int → Dt
  | none => .none
  | some i => .int i
abbrev exnD (cls : Str) (m : Option Int) : Dt := .dict [(.none, .str cls), (.none, exnM m)]
/-- the datum of an exception -/
def exnL : List (Dt × Dt) → Bool
  | (.none, _) :: _ => true
  | _ => false
/-- an exception object, tracked -/
def ExH (C : Value) (d : Option Addr) (a : Addr) : HO := .ext fun h => ∃ (oe : Obj) (vs : Array Value), h.get? a = some oe ∧ Zc C d oe ∧ oe.data = .fields vs
def XdAt (H : Hp) (d : Option Addr) (m : Option Int) : Prop := match m with
  | none => d = none
  | some i => ∃ dd, d = some dd ∧ H dd = some (.xd [("moment", .int i)])
mutual
inductive Rp (K : PySem.W.Frag) (F : Addr → Prop) (H : Hp) : V → Dt → Prop
  | non : Rp K F H .non .none
  | bl (b : Bool) : Rp K F H (.bl b) (.bool b)
  | int (i : Int) : Rp K F H (.int i) (.int i)
  | str (x : Str) : Rp K F H (.str x) (.str x)
  | lst {a : Addr} {xs : List V} {ds : List Dt} : H a = some (.lst xs) → F a → RpA K F H xs ds → Rp K F H (.ref a) (.list ds)
  | fz {a : Addr} {xs : List V} {ds : List Dt} : Fz K H a xs → RpA K F H xs ds → Rp K F H (.ref a) (.list ds)
  | tup {a : Addr} {xs : List V} {ds : List Dt} : SqT K H a xs → RpA K F H xs ds → Rp K F H (.ref a) (.tuple ds)
  | dic {a : Addr} {kvs : List (Key × V)} {es : List (Dt × Dt)} : H a = some (.dK kvs) → F a → kvs.map (fun kv => keyD kv.1) = es.map (fun e => e.1) → RpA K F H (kvs.map fun kv => kv.2) (es.map fun e => e.2) → Rp K F H (.ref a) (.dict es)
  | exn {a C : Addr} {cls : Str} {d : Option Addr} {m : Option Int} : PySem.W.nsIn K mainGlobals cls = some (some (.ref C)) → H a = some (ExH (.ref C) d a) → XdAt H d m → Rp K F H (.ref a) (.dict [(.none, .str cls), (.none, exnM m)])
inductive RpA (K : PySem.W.Frag) (F : Addr → Prop) (H : Hp) : List V → List Dt → Prop
  | nil : RpA K F H [] []
  | cons {v : V} {vs : List V} {d : Dt} {ds : List Dt} : Rp K F H v d → RpA K F H vs ds → RpA K F H (v :: vs) (d :: ds)
end

section
variable {K : PySem.W.Frag} {F F' : Addr → Prop} {H H' : Hp} {v : V} {d : Dt} {vs : List V} {ds : List Dt} {a p : Addr} {xs : List V}

theorem Fz.same (e : Same H H') (h : Fz K H a xs) : Fz K H' a xs := by
  rcases h with ⟨o, h⟩ | h
  · exact .inl ⟨o, e _ _ h⟩
  · exact .inr h
theorem Fz.sql (h : Fz K H a xs) : SqL K H a xs := by
  rcases h with ⟨o, h⟩ | h
  · exact .inl (.inr ⟨o, h⟩)
  · exact .inr h
theorem sqt_same (e : Same H H') (h : SqT K H a xs) : SqT K H' a xs := by
  rcases h with (h | ⟨o, h⟩) | h
  · exact .inl (.inl (e _ _ h))
  · exact .inl (.inr ⟨o, e _ _ h⟩)
  · exact .inr h

theorem XdAt.same {d : Option Addr} {m : Option Int} (e : Same H H') (x : XdAt H d m) : XdAt H' d m := by
  cases m with
  | none => exact x
  | some i =>
    obtain ⟨dd, h1, h2⟩ := x
    exact ⟨dd, h1, e _ _ h2⟩
mutual
theorem Rp.mono (e : Same H H') (f : ∀ a, F a → H a ≠ none → F' a) : ∀ {v : V} {d : Dt}, Rp K F H v d → Rp K F' H' v d
  | _, _, .non => .non
  | _, _, .bl b => .bl b
  | _, _, .int i => .int i
  | _, _, .str x => .str x
  | _, _, .lst h fa r => .lst (e _ _ h) (f _ fa (by rw [h]; exact fun z => nomatch z)) (RpA.mono e f r)
  | _, _, .fz h r => .fz (h.same e) (RpA.mono e f r)
  | _, _, .tup h r => .tup (sqt_same e h) (RpA.mono e f r)
  | _, _, .dic h fa hk r => .dic (e _ _ h) (f _ fa (by rw [h]; exact fun z => nomatch z)) hk (RpA.mono e f r)
  | _, _, .exn n h x => .exn n (e _ _ h) (x.same e)
theorem RpA.mono (e : Same H H') (f : ∀ a, F a → H a ≠ none → F' a) : ∀ {vs : List V} {ds : List Dt}, RpA K F H vs ds → RpA K F' H' vs ds
  | _, _, .nil => .nil
  | _, _, .cons h r => .cons (Rp.mono e f h) (RpA.mono e f r)
end
/-- what holds a place of its own (no tuple, not locked) -/
def Mutb (o : HO) : Prop := match o with
  | .lst _ => True
  | .dK _ => True
  | .dT _ => True
  | _ => False
theorem exH_ne {o : HO} {C : Value} {d : Option Addr} (hp : H p = some o) (m : Mutb o) (h : H a = some (ExH C d a)) : a ≠ p := fun z => by
  subst z
  rw [hp] at h
  cases h
  exact m
theorem XdAt.updM {o o' : HO} {d : Option Addr} {m : Option Int} (hp : H p = some o) (mu : Mutb o) (x : XdAt H d m) : XdAt (upd H p o') d m := by
  cases m with
  | none => exact x
  | some i =>
    obtain ⟨dd, h1, h2⟩ := x
    refine ⟨dd, h1, ?_⟩
    rw [upd_ne ?_]
    · exact h2
    · intro z
      subst z
      rw [hp] at h2
      cases h2
      exact mu
theorem Fz.updM {o o' : HO} (hp : H p = some o) (m : Mutb o) (h : Fz K H a xs) : Fz K (upd H p o') a xs := by
  rcases h with ⟨q, h⟩ | h
  · refine .inl ⟨q, ?_⟩
    rw [upd_ne ?_]
    · exact h
    · intro z
      subst z
      rw [hp] at h
      cases h
      exact m
  · exact .inr h
theorem sqt_updM {o o' : HO} (hp : H p = some o) (m : Mutb o) (h : SqT K H a xs) : SqT K (upd H p o') a xs := by
  rcases h with (h | ⟨q, h⟩) | h
  · refine .inl (.inl ?_)
    rw [upd_ne ?_]
    · exact h
    · intro z
      subst z
      rw [hp] at h
      cases h
      exact m
  · refine .inl (.inr ⟨q, ?_⟩)
    rw [upd_ne ?_]
    · exact h
    · intro z
      subst z
      rw [hp] at h
      cases h
      exact m
  · exact .inr h
mutual
theorem Rp.updM {o o' : HO} (hp : H p = some o) (m : Mutb o) (nf : ∀ a, F a → a ≠ p) : ∀ {v : V} {d : Dt}, Rp K F H v d → Rp K F (upd H p o') v d
  | _, _, .non => .non
  | _, _, .bl b => .bl b
  | _, _, .int i => .int i
  | _, _, .str x => .str x
  | _, _, .lst h fa r => .lst (by rw [upd_ne (nf _ fa)]; exact h) fa (RpA.updM hp m nf r)
  | _, _, .fz h r => .fz (h.updM hp m) (RpA.updM hp m nf r)
  | _, _, .tup h r => .tup (sqt_updM hp m h) (RpA.updM hp m nf r)
  | _, _, .dic h fa hk r => .dic (by rw [upd_ne (nf _ fa)]; exact h) fa hk (RpA.updM hp m nf r)
  | _, _, .exn n h x => .exn n (by rw [upd_ne (exH_ne hp m h)]; exact h) (x.updM hp m)
theorem RpA.updM {o o' : HO} (hp : H p = some o) (m : Mutb o) (nf : ∀ a, F a → a ≠ p) : ∀ {vs : List V} {ds : List Dt}, RpA K F H vs ds → RpA K F (upd H p o') vs ds
  | _, _, .nil => .nil
  | _, _, .cons h r => .cons (Rp.updM hp m nf h) (RpA.updM hp m nf r)
end
mutual
theorem Rp.dp : ∀ {v : V} {d : Dt}, Rp K F H v d → PyData.canLay0 d = true → Dp K H v d
  | _, _, .non, _ => .non
  | _, _, .bl b, _ => .bl b
  | _, _, .int i, _ => .int i
  | _, _, .str x, _ => .str x
  | _, _, .lst h _ r, c => .lst (.inl (.inl h)) (RpA.dp r (by simpa [PyData.canLay0] using c))
  | _, _, .fz h r, c => .lst h.sql (RpA.dp r (by simpa [PyData.canLay0] using c))
  | _, _, .tup h r, c => .tup h (RpA.dp r (by simpa [PyData.canLay0] using c))
  | _, _, .dic _ _ _ _, c => by simp [PyData.canLay0] at c
  | _, _, .exn _ _ _, c => by simp [PyData.canLay0] at c
theorem RpA.dp : ∀ {vs : List V} {ds : List Dt}, RpA K F H vs ds → PyData.canLayAll0 ds = true → DpAll K H vs ds
  | _, _, .nil, _ => .nil
  | _, _, .cons h r, c => by
    unfold PyData.canLayAll0 at c
    rw [Bool.and_eq_true] at c
    exact .cons (Rp.dp h c.1) (RpA.dp r c.2)
end
theorem shaped_lay {d : Dt} (h : SeqAt.shaped d = true) : PyData.canLay0 d = true := by
  unfold SeqAt.shaped at h
  rw [Bool.and_eq_true] at h
  exact h.1
theorem RpA.length : ∀ {vs : List V} {ds : List Dt}, RpA K F H vs ds → vs.length = ds.length
  | _, _, .nil => rfl
  | _, _, .cons _ r => by rw [List.length_cons, List.length_cons, r.length]
theorem RpA.get : ∀ {vs : List V} {ds : List Dt} {i : Nat} {v : V}, RpA K F H vs ds → vs[i]? = some v → ∃ d, ds[i]? = some d ∧ Rp K F H v d
  | _, _, _, _, .nil, e => by simp at e
  | _, _, 0, _, .cons h _, e => by simp at e; subst e; exact ⟨_, rfl, h⟩
  | _, _, i + 1, v, .cons _ r, e => by
    obtain ⟨d, h1, h2⟩ := RpA.get (i := i) (v := v) r (by simpa using e)
    exact ⟨d, by simpa using h1, h2⟩
theorem RpA.get' : ∀ {vs : List V} {ds : List Dt} {i : Nat} {d : Dt}, RpA K F H vs ds → ds[i]? = some d → ∃ v, vs[i]? = some v ∧ Rp K F H v d
  | _, _, _, _, .nil, e => by simp at e
  | _, _, 0, _, .cons h _, e => by simp at e; subst e; exact ⟨_, rfl, h⟩
  | _, _, i + 1, d, .cons _ r, e => by
    obtain ⟨v, h1, h2⟩ := RpA.get' (i := i) (d := d) r (by simpa using e)
    exact ⟨v, by simpa using h1, h2⟩
theorem RpA.append : ∀ {xs ys : List V} {ds es : List Dt}, RpA K F H xs ds → RpA K F H ys es → RpA K F H (xs ++ ys) (ds ++ es)
  | _, _, _, _, .nil, s => s
  | _, _, _, _, .cons h r, s => .cons h (RpA.append r s)
theorem RpA.take : ∀ {xs : List V} {ds : List Dt} (n : Nat), RpA K F H xs ds → RpA K F H (xs.take n) (ds.take n)
  | _, _, 0, _ => .nil
  | _, _, _ + 1, .nil => .nil
  | _, _, n + 1, .cons h r => .cons h (RpA.take n r)
theorem RpA.drop : ∀ {xs : List V} {ds : List Dt} (n : Nat), RpA K F H xs ds → RpA K F H (xs.drop n) (ds.drop n)
  | _, _, 0, r => r
  | _, _, _ + 1, .nil => .nil
  | _, _, n + 1, .cons _ r => RpA.drop n r
theorem RpA.set {x : V} {d : Dt} (h : Rp K F H x d) : ∀ {xs : List V} {ds : List Dt} (i : Nat), RpA K F H xs ds → RpA K F H (xs.set i x) (ds.set i d)
  | _, _, _, .nil => .nil
  | _, _, 0, .cons _ r => .cons h r
  | _, _, i + 1, .cons q r => .cons q (RpA.set h i r)
theorem RpA.reverse {xs : List V} {ds : List Dt} (h : RpA K F H xs ds) : RpA K F H xs.reverse ds.reverse := by
  induction xs generalizing ds with
  | nil => cases h; exact .nil
  | cons x xs ih =>
    cases h with
    | cons q r =>
      rw [List.reverse_cons, List.reverse_cons]
      exact (ih r).append (.cons q .nil)
theorem RpA.flat {xs : List V} {ds : List Dt} (h : RpA K F H xs ds) : ∀ k : Nat, RpA K F H (List.replicate k xs).flatten (List.replicate k ds).flatten
  | 0 => .nil
  | k + 1 => by
    rw [List.replicate_succ, List.replicate_succ, List.flatten_cons, List.flatten_cons]
    exact h.append (RpA.flat h k)
mutual
def pure1 : Dt → Bool
  | .list _ => false
  | .dict _ => false
  | .tuple xs => pureA xs
  | _ => true
def pureA : List Dt → Bool
  | [] => true
  | x :: xs => pure1 x && pureA xs
end
mutual
theorem Rp.pure : ∀ {v : V} {d : Dt}, Rp K F H v d → pure1 d = true → Rp K F' H v d
  | _, _, .non, _ => .non
  | _, _, .bl b, _ => .bl b
  | _, _, .int i, _ => .int i
  | _, _, .str x, _ => .str x
  | _, _, .lst h _ r, e => by rw [pure1] at e; cases e
  | _, _, .fz h r, e => by rw [pure1] at e; cases e
  | _, _, .tup h r, e => .tup h (RpA.pure r (by rw [pure1] at e; exact e))
  | _, _, .dic h _ _ r, e => by rw [pure1] at e; cases e
  | _, _, .exn n h x, _ => .exn n h x
theorem RpA.pure : ∀ {vs : List V} {ds : List Dt}, RpA K F H vs ds → pureA ds = true → RpA K F' H vs ds
  | _, _, .nil, _ => .nil
  | _, _, .cons h r, e => by
    rw [pureA, Bool.and_eq_true] at e
    exact .cons (Rp.pure h e.1) (RpA.pure r e.2)
end
theorem Rp.weak (f : ∀ a, F a → F' a) (h : Rp K F H v d) : Rp K F' H v d := h.mono (Same.refl H) fun a fa _ => f a fa
theorem RpA.weak (f : ∀ a, F a → F' a) (h : RpA K F H vs ds) : RpA K F' H vs ds := h.mono (Same.refl H) fun a fa _ => f a fa
theorem Rp.same (e : Same H H') (h : Rp K F H v d) : Rp K F H' v d := h.mono e fun a fa _ => fa
theorem RpA.same (e : Same H H') (h : RpA K F H vs ds) : RpA K F H' vs ds := h.mono e fun a fa _ => fa
/-- one thing stands for one datum -/
theorem Fz.inj_lst {ys : List V} (h : Fz K H a xs) (h' : H a = some (.lst ys)) : (∃ (o : Obj) (its : Array Value) (n : Nat), K.lookup a = some o ∧ o.cls = .type "list" ∧ o.dict = none ∧ o.data = .seq its n ∧ its.size ≤ sizeLine ∧ Vals xs its.toList) := by
  rcases h with ⟨o, h⟩ | h
  · rw [h] at h'; cases h'
  · exact h
end

/-! ### outcomes -/
structure Exn where
  cls : Str
  arg : Option Int
inductive O (α : Type) where
  | bad | ok (a : α) | ex (e : Exn)
def bnd {α β : Type} (x : O α) (f : α → O β) : O β := match x with
  | .bad => .bad
  | .ok a => f a
  | .ex e => .ex e
@[simp] theorem bnd_ok {α β : Type} (a : α) (f : α → O β) : bnd (.ok a) f = f a := rfl
@[simp] theorem bnd_bad {α β : Type} (f : α → O β) : bnd .bad f = .bad := rfl
@[simp] theorem bnd_ex {α β : Type} (e : Exn) (f : α → O β) : bnd (.ex e) f = .ex e := rfl

/-! ### kinds of slots, frames, states -/
inductive Ct where
  | l | dk | dt | la | ka
/-- an argument of one's own -/
def isArg : Ct → Bool
  | .la => true
  | .ka => true
  | _ => false
inductive Kd where
  | no | im (fr : Bool) | own (c : Ct) (fr : Bool)
structure Fm where
  H0 : Hp
  G : Addr → Prop
  Γ : List (List V × List Dt × Bool)
  P : List Addr
  A : Option Addr := none

def Ow (Δ : List Kd) (σ : St) (a : Addr) : Prop := ∃ (i : Nat) (c : Ct) (fr : Bool), Δ[i]? = some (Kd.own c fr) ∧ σ[i]? = some (some (V.ref a))
def FM (f : Fm) (Δ : List Kd) (σ : St) (av fr : Bool) (a : Addr) : Prop := (av = true → ¬ Ow Δ σ a ∧ a ∉ f.P) ∧ (fr = true → f.G a)

inductive KvA (K : PySem.W.Frag) (F : Addr → Prop) (H : Hp) : List (Key × V) → List (Dt × Dt) → Prop
  | nil : KvA K F H [] []
  | cons {k : Key} {v : V} {d : Dt} {kvs : List (Key × V)} {es : List (Dt × Dt)} : Rp K F H v d → KvA K F H kvs es → KvA K F H ((k, v) :: kvs) ((keyD k, d) :: es)
inductive KtA (K : PySem.W.Frag) (F : Addr → Prop) (H : Hp) : List (List Key × V) → List (Dt × Dt) → Prop
  | nil : KtA K F H [] []
  | cons {k : List Key} {v : V} {d : Dt} {kvs : List (List Key × V)} {es : List (Dt × Dt)} : Rp K F H v d → KtA K F H kvs es → KtA K F H ((k, v) :: kvs) ((.tuple (k.map keyD), d) :: es)
def OwC (K : PySem.W.Frag) (c : Ct) (F : Addr → Prop) (H : Hp) (p : Addr) (d : Dt) : Prop := match c with
  | .l => ∃ vs ds, d = .list ds ∧ H p = some (.lst vs) ∧ RpA K F H vs ds
  | .dk => ∃ kvs es, d = .dict es ∧ H p = some (.dK kvs) ∧ KvA K F H kvs es
  | .dt => ∃ kvs es, d = .dict es ∧ H p = some (.dT kvs) ∧ KtA K F H kvs es
  | .la => ∃ vs ds, d = .list ds ∧ H p = some (.lst vs) ∧ RpA K F H vs ds
  | .ka => ∃ kvs es, d = .dict es ∧ H p = some (.dK kvs) ∧ KvA K F H kvs es

section
variable {K : PySem.W.Frag} {F F' : Addr → Prop} {H H' : Hp} {p q : Addr} {d : Dt} {c : Ct}
theorem KvA.map {kvs es} (f : ∀ v d, Rp K F H v d → Rp K F' H' v d) : KvA K F H kvs es → KvA K F' H' kvs es
  | .nil => .nil
  | .cons h r => .cons (f _ _ h) (KvA.map f r)
theorem KtA.map {kvs es} (f : ∀ v d, Rp K F H v d → Rp K F' H' v d) : KtA K F H kvs es → KtA K F' H' kvs es
  | .nil => .nil
  | .cons h r => .cons (f _ _ h) (KtA.map f r)
theorem RpA.map {vs ds} (f : ∀ v d, Rp K F H v d → Rp K F' H' v d) : RpA K F H vs ds → RpA K F' H' vs ds
  | .nil => .nil
  | .cons h r => .cons (f _ _ h) (RpA.map f r)
theorem OwC.map (hp : ∀ o, H p = some o → H' p = some o) (f : ∀ v d, Rp K F H v d → Rp K F' H' v d) (h : OwC K c F H p d) : OwC K c F' H' p d := by
  cases c with
  | l => obtain ⟨vs, ds, e, h1, h2⟩ := h; exact ⟨vs, ds, e, hp _ h1, h2.map f⟩
  | dk => obtain ⟨vs, ds, e, h1, h2⟩ := h; exact ⟨vs, ds, e, hp _ h1, h2.map f⟩
  | dt => obtain ⟨vs, ds, e, h1, h2⟩ := h; exact ⟨vs, ds, e, hp _ h1, h2.map f⟩
  | la => obtain ⟨vs, ds, e, h1, h2⟩ := h; exact ⟨vs, ds, e, hp _ h1, h2.map f⟩
  | ka => obtain ⟨vs, ds, e, h1, h2⟩ := h; exact ⟨vs, ds, e, hp _ h1, h2.map f⟩
theorem OwC.mutb (h : OwC K c F H p d) : ∃ o, H p = some o ∧ Mutb o := by
  cases c with
  | l => obtain ⟨vs, ds, e, h1, h2⟩ := h; exact ⟨_, h1, trivial⟩
  | dk => obtain ⟨vs, ds, e, h1, h2⟩ := h; exact ⟨_, h1, trivial⟩
  | dt => obtain ⟨vs, ds, e, h1, h2⟩ := h; exact ⟨_, h1, trivial⟩
  | la => obtain ⟨vs, ds, e, h1, h2⟩ := h; exact ⟨_, h1, trivial⟩
  | ka => obtain ⟨vs, ds, e, h1, h2⟩ := h; exact ⟨_, h1, trivial⟩
theorem OwC.there (h : OwC K c F H p d) : H p ≠ none := by
  obtain ⟨o, e, _⟩ := h.mutb
  rw [e]
  exact fun z => nomatch z
end

structure R (K : PySem.W.Frag) (f : Fm) (Δ : List Kd) (ρ : List Dt) (σ : St) (H : Hp) : Prop where
  ext : Same f.H0 H
  g0 : ∀ a, f.H0 a = none → f.G a
  lσ : σ.length = Δ.length
  lρ : ρ.length = Δ.length
  inj : ∀ (i j : Nat) (ci : Ct) (fi : Bool) (cj : Ct) (fj : Bool) (p : Addr), Δ[i]? = some (Kd.own ci fi) → Δ[j]? = some (Kd.own cj fj) → σ[i]? = some (some (V.ref p)) → σ[j]? = some (some (V.ref p)) → i = j
  pin : ∀ a ∈ f.P, (∃ o, H a = some o ∧ Mutb o) ∧ ¬ Ow Δ σ a
  gh : ∀ g ∈ f.Γ, RpA K (FM f Δ σ true g.2.2) H g.1 g.2.1
  im : ∀ (i : Nat) (fr : Bool), Δ[i]? = some (Kd.im fr) → ∃ v d, σ[i]? = some (some v) ∧ ρ[i]? = some d ∧ Rp K (FM f Δ σ true fr) H v d
  ow : ∀ (i : Nat) (c : Ct) (fr : Bool), Δ[i]? = some (Kd.own c fr) → ∃ p d, σ[i]? = some (some (V.ref p)) ∧ ρ[i]? = some d ∧ f.H0 p = none ∧ OwC K c (FM f Δ σ true fr) H p d
  ar : ∀ (i : Nat) (c : Ct) (fr : Bool), Δ[i]? = some (Kd.own c fr) → isArg c = true → ∃ p, f.A = some p ∧ σ[i]? = some (some (V.ref p))

section
variable {K : PySem.W.Frag} {f : Fm} {Δ : List Kd} {ρ : List Dt} {σ : St} {H H' : Hp} {v : V} {d : Dt} {i : Nat} {p : Addr}

theorem FM.weak {av fr av' fr' : Bool} (h1 : av' = true → av = true) (h2 : fr' = true → fr = true) {a : Addr} (h : FM f Δ σ av fr a) : FM f Δ σ av' fr' a := ⟨fun e => h.1 (h1 e), fun e => h.2 (h2 e)⟩

theorem R.mono (r : R K f Δ ρ σ H) (e : Same H H') : R K f Δ ρ σ H' where
  ext := r.ext.trans e
  g0 := r.g0
  lσ := r.lσ
  lρ := r.lρ
  inj := r.inj
  pin := fun a ha => let ⟨⟨o, h1, h2⟩, h3⟩ := r.pin a ha; ⟨⟨o, e _ _ h1, h2⟩, h3⟩
  gh := fun g hg => (r.gh g hg).same e
  im := fun i fr h => let ⟨v, d, h1, h2, h3⟩ := r.im i fr h; ⟨v, d, h1, h2, h3.same e⟩
  ow := fun i c fr h => let ⟨p, d, h1, h2, h3, h4⟩ := r.ow i c fr h; ⟨p, d, h1, h2, h3, h4.map (fun o => e p o) fun _ _ q => q.same e⟩
  ar := r.ar

theorem R.owOf (r : R K f Δ ρ σ H) {a : Addr} (h : Ow Δ σ a) : (∃ o, H a = some o ∧ Mutb o) ∧ f.H0 a = none := by
  obtain ⟨i, c, fr, h1, h2⟩ := h
  obtain ⟨p, d, e1, _, e3, e4⟩ := r.ow i c fr h1
  rw [h2] at e1
  cases e1
  exact ⟨e4.mutb, e3⟩
theorem R.fresh (r : R K f Δ ρ σ H) (h : H p = none) : ¬ Ow Δ σ p ∧ p ∉ f.P ∧ f.H0 p = none := by
  refine ⟨fun z => ?_, fun z => ?_, ?_⟩
  · obtain ⟨⟨o, e, _⟩, _⟩ := r.owOf z
    rw [h] at e; cases e
  · obtain ⟨⟨o, e, _⟩, _⟩ := r.pin p z
    rw [h] at e; cases e
  · cases q : f.H0 p with
    | none => rfl
    | some o => rw [r.ext p o q] at h; cases h

/-- an update at a place that no datum reaches (an owned one's content, or a pinned one) -/
theorem R.updAt {o o' : HO} (r : R K f Δ ρ σ H) (hp : H p = some o) (m : Mutb o) (m' : Mutb o') (h0 : f.H0 p = none) (no : ¬ Ow Δ σ p) (hP : p ∈ f.P) : R K f Δ ρ σ (upd H p o') := by
  have key : ∀ {fr : Bool} {v : V} {d : Dt}, Rp K (FM f Δ σ true fr) H v d → Rp K (FM f Δ σ true fr) (upd H p o') v d := fun h =>
    h.updM hp m fun a fa z => (fa.1 rfl).2 (z ▸ hP)
  refine ⟨fun b u e => ?_, r.g0, r.lσ, r.lρ, r.inj, fun a ha => ⟨?_, (r.pin a ha).2⟩, fun g hg => (r.gh g hg).map fun _ _ x => key x, fun i fr h => ?_, fun i c fr h => ?_, r.ar⟩
  · have : b ≠ p := fun z => by subst z; rw [h0] at e; cases e
    rw [upd_ne this]
    exact r.ext b u e
  · by_cases z : a = p
    · subst z
      exact ⟨o', upd_same, m'⟩
    · rw [upd_ne z]
      exact (r.pin a ha).1
  · obtain ⟨v, d, h1, h2, h3⟩ := r.im i fr h
    exact ⟨v, d, h1, h2, key h3⟩
  · obtain ⟨q, d, h1, h2, h3, h4⟩ := r.ow i c fr h
    have nq : q ≠ p := fun z => no ⟨i, c, fr, h, z ▸ h1⟩
    exact ⟨q, d, h1, h2, h3, h4.map (fun u e => by rw [upd_ne nq]; exact e) fun _ _ x => key x⟩

/-- an owned object's content is replaced -/
theorem R.updOwn {o' : HO} {c : Ct} {fr : Bool} (r : R K f Δ ρ σ H) (hk : Δ[i]? = some (Kd.own c fr)) (hs : σ[i]? = some (some (V.ref p)))
    {fr' : Bool} (m' : Mutb o') {c' : Ct} (new : OwC K c' (FM f Δ σ true fr') (upd H p o') p d) (hc : isArg c' = true → isArg c = true := by intro h; first | exact h | cases h) : R K f (Δ.set i (.own c' fr')) (ρ.set i d) σ (upd H p o') := by
  obtain ⟨p', d', e1, e2, e3, e4⟩ := r.ow i c fr hk
  rw [hs] at e1
  cases e1
  obtain ⟨o, ho, mo⟩ := e4.mutb
  have hi : i < Δ.length := (List.getElem?_eq_some_iff.mp hk).1
  have owp : Ow Δ σ p := ⟨i, c, fr, hk, hs⟩
  have ow' : ∀ a, Ow (Δ.set i (.own c' fr')) σ a ↔ Ow Δ σ a := fun a => by
    constructor
    · rintro ⟨j, cj, fj, h1, h2⟩
      by_cases z : i = j
      · subst z
        rw [hs] at h2
        cases h2
        exact owp
      · rw [List.getElem?_set_ne z] at h1
        exact ⟨j, cj, fj, h1, h2⟩
    · rintro ⟨j, cj, fj, h1, h2⟩
      by_cases z : i = j
      · subst z
        exact ⟨i, c', fr', by rw [List.getElem?_set_self hi], h2⟩
      · exact ⟨j, cj, fj, by rw [List.getElem?_set_ne z]; exact h1, h2⟩
  have key : ∀ {fr : Bool} {v : V} {d : Dt}, Rp K (FM f Δ σ true fr) H v d → Rp K (FM f (Δ.set i (.own c' fr')) σ true fr) (upd H p o') v d := fun h =>
    (h.updM ho mo fun a fa z => (fa.1 rfl).1 (z ▸ owp)).weak fun a fa => ⟨fun _ => ⟨fun z => (fa.1 rfl).1 ((ow' a).mp z), (fa.1 rfl).2⟩, fa.2⟩
  have key2 : ∀ {fr : Bool} {v : V} {d : Dt}, Rp K (FM f Δ σ true fr) (upd H p o') v d → Rp K (FM f (Δ.set i (.own c' fr')) σ true fr) (upd H p o') v d := fun h =>
    h.weak fun a fa => ⟨fun _ => ⟨fun z => (fa.1 rfl).1 ((ow' a).mp z), (fa.1 rfl).2⟩, fa.2⟩
  refine ⟨fun b u e => ?_, r.g0, by rw [List.length_set]; exact r.lσ, by rw [List.length_set, List.length_set]; exact r.lρ, ?_, fun a ha => ?_, fun g hg => (r.gh g hg).map fun _ _ x => key x, fun j fj h => ?_, fun j cj fj h => ?_, fun j cj fj h ha => ?_⟩
  · have : b ≠ p := fun z => by subst z; rw [e3] at e; cases e
    rw [upd_ne this]
    exact r.ext b u e
  · intro j k cj fj ck fk q h1 h2 h3 h4
    have g : ∀ {j : Nat} {cj : Ct} {fj : Bool}, (Δ.set i (Kd.own c' fr'))[j]? = some (Kd.own cj fj) → ∃ (cj : Ct) (fj : Bool), Δ[j]? = some (Kd.own cj fj) := fun {j cj fj} h => by
      by_cases z : i = j
      · subst z; exact ⟨_, _, hk⟩
      · rw [List.getElem?_set_ne z] at h; exact ⟨_, _, h⟩
    obtain ⟨_, _, g1⟩ := g h1
    obtain ⟨_, _, g2⟩ := g h2
    exact r.inj j k _ _ _ _ q g1 g2 h3 h4
  · obtain ⟨⟨u, hu, mu⟩, no⟩ := r.pin a ha
    have na : a ≠ p := fun z => no (z ▸ owp)
    exact ⟨⟨u, by rw [upd_ne na]; exact hu, mu⟩, fun z => no ((ow' a).mp z)⟩
  · by_cases z : i = j
    · subst z
      rw [List.getElem?_set_self hi] at h
      cases h
    · rw [List.getElem?_set_ne z] at h
      obtain ⟨v, d, h1, h2, h3⟩ := r.im j fj h
      exact ⟨v, d, h1, by rw [List.getElem?_set_ne z]; exact h2, key h3⟩
  · by_cases z : i = j
    · subst z
      rw [List.getElem?_set_self hi] at h
      cases h
      exact ⟨p, d, hs, by rw [List.getElem?_set_self (by rw [r.lρ]; exact hi)], e3, new.map (fun o e => e) fun _ _ x => key2 x⟩
    · rw [List.getElem?_set_ne z] at h
      obtain ⟨q, d, h1, h2, h3, h4⟩ := r.ow j cj fj h
      have nq : q ≠ p := fun y => z (r.inj i j _ _ _ _ p hk h hs (y ▸ h1))
      exact ⟨q, d, h1, by rw [List.getElem?_set_ne z]; exact h2, h3, h4.map (fun u e => by rw [upd_ne nq]; exact e) fun _ _ x => key x⟩
  · by_cases z : i = j
    · subst z
      rw [List.getElem?_set_self hi] at h
      cases h
      exact r.ar i c fr hk (hc ha)
    · rw [List.getElem?_set_ne z] at h
      exact r.ar j cj fj h ha

/-- slot i gets a value; or is forgotten -/
theorem R.setIm {fr : Bool} (r : R K f Δ ρ σ H) (hi : i < Δ.length) (h : Rp K (FM f Δ σ true fr) H v d) : R K f (Δ.set i (.im fr)) (ρ.set i d) (σ.set i (some v)) H := by
  have ow' : ∀ a, Ow (Δ.set i (.im fr)) (σ.set i (some v)) a → Ow Δ σ a := fun a => by
    rintro ⟨j, cj, fj, h1, h2⟩
    by_cases z : i = j
    · subst z
      rw [List.getElem?_set_self hi] at h1
      cases h1
    · rw [List.getElem?_set_ne z] at h1 h2
      exact ⟨j, cj, fj, h1, h2⟩
  have key : ∀ {fr' : Bool} {v' : V} {d' : Dt}, Rp K (FM f Δ σ true fr') H v' d' → Rp K (FM f (Δ.set i (.im fr)) (σ.set i (some v)) true fr') H v' d' := fun h =>
    h.weak fun a fa => ⟨fun _ => ⟨fun z => (fa.1 rfl).1 (ow' a z), (fa.1 rfl).2⟩, fa.2⟩
  refine ⟨r.ext, r.g0, by rw [List.length_set, List.length_set]; exact r.lσ, by rw [List.length_set, List.length_set]; exact r.lρ, ?_, fun a ha => ⟨(r.pin a ha).1, fun z => (r.pin a ha).2 (ow' a z)⟩, fun g hg => (r.gh g hg).map fun _ _ x => key x, fun j fj h' => ?_, fun j cj fj h' => ?_, fun j cj fj h' ha => ?_⟩
  · intro j k cj fj ck fk q h1 h2 h3 h4
    have g : ∀ {j : Nat} {cj : Ct} {fj : Bool}, (Δ.set i (Kd.im fr))[j]? = some (Kd.own cj fj) → i ≠ j ∧ Δ[j]? = some (Kd.own cj fj) := fun {j cj fj} h => by
      by_cases z : i = j
      · subst z; rw [List.getElem?_set_self hi] at h; cases h
      · rw [List.getElem?_set_ne z] at h; exact ⟨z, h⟩
    obtain ⟨z1, g1⟩ := g h1
    obtain ⟨z2, g2⟩ := g h2
    rw [List.getElem?_set_ne z1] at h3
    rw [List.getElem?_set_ne z2] at h4
    exact r.inj j k _ _ _ _ q g1 g2 h3 h4
  · by_cases z : i = j
    · subst z
      rw [List.getElem?_set_self hi] at h'
      cases h'
      exact ⟨v, d, by rw [List.getElem?_set_self (by rw [r.lσ]; exact hi)], by rw [List.getElem?_set_self (by rw [r.lρ]; exact hi)], key h⟩
    · rw [List.getElem?_set_ne z] at h'
      obtain ⟨v', d', h1, h2, h3⟩ := r.im j fj h'
      exact ⟨v', d', by rw [List.getElem?_set_ne z]; exact h1, by rw [List.getElem?_set_ne z]; exact h2, key h3⟩
  · by_cases z : i = j
    · subst z
      rw [List.getElem?_set_self hi] at h'
      cases h'
    · rw [List.getElem?_set_ne z] at h'
      obtain ⟨q, d', h1, h2, h3, h4⟩ := r.ow j cj fj h'
      exact ⟨q, d', by rw [List.getElem?_set_ne z]; exact h1, by rw [List.getElem?_set_ne z]; exact h2, h3, h4.map (fun u e => e) fun _ _ x => key x⟩
  · by_cases z : i = j
    · subst z
      rw [List.getElem?_set_self hi] at h'
      cases h'
    · rw [List.getElem?_set_ne z] at h'
      obtain ⟨p, h1, h2⟩ := r.ar j cj fj h' ha
      exact ⟨p, h1, by rw [List.getElem?_set_ne z]; exact h2⟩

/-- slot i gets a new object of its own -/
theorem R.setOwn {c : Ct} {fr : Bool} (r0 : R K f Δ ρ σ H) (hi : i < Δ.length) (hp : H p = none) (e : Same H H') (h : OwC K c (fun a => FM f Δ σ true fr a ∧ a ≠ p) H' p d) (hc : isArg c = false := by rfl) :
    R K f (Δ.set i (.own c fr)) (ρ.set i d) (σ.set i (some (.ref p))) H' := by
  have r := r0.mono e
  obtain ⟨f1, f2, f3⟩ := r0.fresh hp
  have ow' : ∀ a, Ow (Δ.set i (.own c fr)) (σ.set i (some (.ref p))) a → Ow Δ σ a ∨ a = p := fun a => by
    rintro ⟨j, cj, fj, h1, h2⟩
    by_cases z : i = j
    · subst z
      rw [List.getElem?_set_self (by rw [r.lσ]; exact hi)] at h2
      cases h2
      exact .inr rfl
    · rw [List.getElem?_set_ne z] at h1 h2
      exact .inl ⟨j, cj, fj, h1, h2⟩
  have key : ∀ {fr' : Bool} {v' : V} {d' : Dt}, Rp K (FM f Δ σ true fr') H v' d' → Rp K (FM f (Δ.set i (.own c fr)) (σ.set i (some (.ref p))) true fr') H' v' d' := fun h =>
    h.mono e fun a fa na => ⟨fun _ => ⟨fun z => by
      rcases ow' a z with z | z
      · exact (fa.1 rfl).1 z
      · exact na (z ▸ hp), (fa.1 rfl).2⟩, fa.2⟩
  have keyN : ∀ {fr' : Bool} {v' : V} {d' : Dt}, Rp K (fun a => FM f Δ σ true fr' a ∧ a ≠ p) H' v' d' → Rp K (FM f (Δ.set i (.own c fr)) (σ.set i (some (.ref p))) true fr') H' v' d' := fun h =>
    h.weak fun a fa => ⟨fun _ => ⟨fun z => by
      rcases ow' a z with z | z
      · exact (fa.1.1 rfl).1 z
      · exact fa.2 z, (fa.1.1 rfl).2⟩, fa.1.2⟩
  refine ⟨r.ext, r.g0, by rw [List.length_set, List.length_set]; exact r.lσ, by rw [List.length_set, List.length_set]; exact r.lρ, ?_, fun a ha => ⟨(r.pin a ha).1, fun z => ?_⟩, fun g hg => (r0.gh g hg).map fun _ _ x => key x, fun j fj h' => ?_, fun j cj fj h' => ?_, fun j cj fj h' ha => ?_⟩
  · have g : ∀ {j : Nat} {cj : Ct} {fj : Bool} {q : Addr}, (Δ.set i (Kd.own c fr))[j]? = some (Kd.own cj fj) → (σ.set i (some (V.ref p)))[j]? = some (some (V.ref q)) → (i = j ∧ q = p) ∨ (i ≠ j ∧ Δ[j]? = some (Kd.own cj fj) ∧ σ[j]? = some (some (V.ref q)) ∧ q ≠ p) := fun {j cj fj q} h h2 => by
      by_cases z : i = j
      · subst z
        rw [List.getElem?_set_self (by rw [r.lσ]; exact hi)] at h2
        cases h2
        exact .inl ⟨rfl, rfl⟩
      · rw [List.getElem?_set_ne z] at h h2
        exact .inr ⟨z, h, h2, fun y => f1 ⟨j, cj, fj, h, y ▸ h2⟩⟩
    intro j k cj fj ck fk q h1 h2 h3 h4
    rcases g h1 h3 with ⟨a1, b1⟩ | ⟨a1, b1, c1, d1⟩
    · rcases g h2 h4 with ⟨a2, b2⟩ | ⟨a2, b2, c2, d2⟩
      · exact a1 ▸ a2
      · exact (d2 b1).elim
    · rcases g h2 h4 with ⟨a2, b2⟩ | ⟨a2, b2, c2, d2⟩
      · exact (d1 b2).elim
      · exact r.inj j k _ _ _ _ q b1 b2 c1 c2
  · rcases ow' a z with z | z
    · exact (r0.pin a ha).2 z
    · exact f2 (z ▸ ha)
  · by_cases z : i = j
    · subst z
      rw [List.getElem?_set_self hi] at h'
      cases h'
    · rw [List.getElem?_set_ne z] at h'
      obtain ⟨v', d', h1, h2, h3⟩ := r0.im j fj h'
      exact ⟨v', d', by rw [List.getElem?_set_ne z]; exact h1, by rw [List.getElem?_set_ne z]; exact h2, key h3⟩
  · by_cases z : i = j
    · subst z
      rw [List.getElem?_set_self hi] at h'
      cases h'
      exact ⟨p, d, by rw [List.getElem?_set_self (by rw [r.lσ]; exact hi)], by rw [List.getElem?_set_self (by rw [r.lρ]; exact hi)], f3, h.map (fun o e => e) fun _ _ x => keyN x⟩
    · rw [List.getElem?_set_ne z] at h'
      obtain ⟨q, d', h1, h2, h3, h4⟩ := r0.ow j cj fj h'
      exact ⟨q, d', by rw [List.getElem?_set_ne z]; exact h1, by rw [List.getElem?_set_ne z]; exact h2, h3, h4.map (fun u x => e _ _ x) fun _ _ x => key x⟩
  · by_cases z : i = j
    · subst z
      rw [List.getElem?_set_self hi] at h'
      cases h'
      rw [hc] at ha
      cases ha
    · rw [List.getElem?_set_ne z] at h'
      obtain ⟨p, h1, h2⟩ := r0.ar j cj fj h' ha
      exact ⟨p, h1, by rw [List.getElem?_set_ne z]; exact h2⟩
end
end Sim
end T_SimA

section T_SimB
set_option Elab.async false
set_option linter.all false
set_option maxRecDepth 100000
/-! SimB: expressions. -/
namespace Sim
open PySem PySem.Spec L2
open PyProof.Rows hiding St

abbrev Wt := Exn → L2.St → Hp → Prop
abbrev Gd := List Dt → O Dt
inductive Rk where
  | v (av fr : Bool) | o (fr : Bool) | new (c : Ct) (fr : Bool)

def PoE (K : PySem.W.Frag) (W : Wt) (f : Fm) (Δ : List Kd) (σ : L2.St) (H : Hp) (k : Rk) (o : O Dt) (Q : VK) : Prop := match o with
  | .bad => False
  | .ex e => ∀ H', Same H H' → W e σ H'
  | .ok d => match k with
    | .v av fr => ∀ v H', Same H H' → Rp K (FM f Δ σ av fr) H' v d → Q v H'
    | .o fr => ∀ p H' vs ds, d = .list ds → Same H H' → H' p = some (.lst vs) → f.G p → RpA K (FM f Δ σ true fr) H' vs ds → Q (.ref p) H'
    | .new c fr => ∀ p H', H p = none → Same H H' → OwC K c (fun a => FM f Δ σ true fr a ∧ a ≠ p) H' p d → Q (.ref p) H'
def SE (K : PySem.W.Frag) (W : Wt) (Δ : List Kd) (te : TE) (k : Rk) (g : Gd) : Prop := ∀ f ρ σ H Q, R K f Δ ρ σ H → PoE K W f Δ σ H k (g ρ) Q → te σ H Q
def PoT (W : Wt) (σ : L2.St) (H : Hp) (o : O Bool) (Q : Bool → Hp → Prop) : Prop := match o with
  | .bad => False
  | .ex e => ∀ H', Same H H' → W e σ H'
  | .ok b => ∀ H', Same H H' → Q b H'
def ST (K : PySem.W.Frag) (W : Wt) (Δ : List Kd) (tt : TT) (g : List Dt → O Bool) : Prop := ∀ f ρ σ H Q, R K f Δ ρ σ H → PoT W σ H (g ρ) Q → tt σ H Q
def PoA (K : PySem.W.Frag) (W : Wt) (f : Fm) (Δ : List Kd) (σ : L2.St) (H : Hp) (av fr : Bool) (o : O (List Dt)) (Q : List V → Hp → Prop) : Prop := match o with
  | .bad => False
  | .ex e => ∀ H', Same H H' → W e σ H'
  | .ok ds => ∀ vs H', Same H H' → RpA K (FM f Δ σ av fr) H' vs ds → Q vs H'
def SA (K : PySem.W.Frag) (W : Wt) (Δ : List Kd) (ta : TA) (av fr : Bool) (g : List Dt → O (List Dt)) : Prop := ∀ f ρ σ H Q, R K f Δ ρ σ H → PoA K W f Δ σ H av fr (g ρ) Q → ta σ H Q

/-! ### the closures -/
def gVar (i : Nat) : Gd := fun ρ => match ρ[i]? with
  | some d => .ok d
  | none => .bad
def gC (d : Dt) : Gd := fun _ => .ok d
def gOp (h : Dt → Dt → O Dt) (a b : Gd) : Gd := fun ρ => bnd (a ρ) fun x => bnd (b ρ) fun y => h x y
def gUn (h : Dt → O Dt) (a : Gd) : Gd := fun ρ => bnd (a ρ) h
def gNil : List Dt → O (List Dt) := fun _ => .ok []
def gCons (a : Gd) (b : List Dt → O (List Dt)) : List Dt → O (List Dt) := fun ρ => bnd (a ρ) fun x => bnd (b ρ) fun xs => .ok (x :: xs)
def gTup (a : List Dt → O (List Dt)) : Gd := fun ρ => bnd (a ρ) fun xs => if xs.length ≤ 100000 then .ok (.tuple xs) else .bad
def gLst (a : List Dt → O (List Dt)) : Gd := fun ρ => bnd (a ρ) fun xs => if xs.length ≤ 100000 then .ok (.list xs) else .bad
def gPur (a : Gd) : Gd := fun ρ => bnd (a ρ) fun d => if pure1 d then .ok d else .bad
def pureIn : Dt → Bool
  | .list xs => pureA xs
  | d => pure1 d
def gPurN (a : Gd) : Gd := fun ρ => bnd (a ρ) fun d => if pureIn d then .ok d else .bad
def gIf (t : List Dt → O Bool) (a b : Gd) : Gd := fun ρ => bnd (t ρ) fun c => if c then a ρ else b ρ
def asB : Dt → O Bool
  | .bool b => .ok b
  | _ => .bad
def gTest (a : Gd) : List Dt → O Bool := fun ρ => bnd (a ρ) asB
def gNot (t : List Dt → O Bool) : List Dt → O Bool := fun ρ => bnd (t ρ) fun b => .ok (!b)
def gAnd (t u : List Dt → O Bool) : List Dt → O Bool := fun ρ => bnd (t ρ) fun b => if b then u ρ else .ok false
def gOr (t u : List Dt → O Bool) : List Dt → O Bool := fun ρ => bnd (t ρ) fun b => if b then .ok true else u ρ
def gAndV (a b : Gd) : Gd := fun ρ => bnd (a ρ) fun x => bnd (asB x) fun c => if c then b ρ else .ok (.bool false)
def gOrV (a b : Gd) : Gd := fun ρ => bnd (a ρ) fun x => bnd (asB x) fun c => if c then .ok (.bool true) else b ρ
def gNotV (a : Gd) : Gd := fun ρ => bnd (a ρ) fun x => bnd (asB x) fun c => .ok (.bool (!c))
def gCB (h : List Dt → O Dt) (a : List Dt → O (List Dt)) : Gd := fun ρ => bnd (a ρ) h
/-- scalars -/
def scl : Dt → Bool
  | .none => true
  | .bool _ => true
  | .int _ => true
  | .str _ => true
  | _ => false

section
variable {K : PySem.W.Frag} {W : Wt} {Δ : List Kd} {ta tb te : TE} {tt tu : TT} {tA tB' : TA} {ga gb g : Gd} {gt gu : List Dt → O Bool} {gA : List Dt → O (List Dt)} {k k1 k2 : Rk} {av fr av' fr' : Bool}

theorem Rp.scl_any {F F' : Addr → Prop} {H H' : Hp} {v : V} {d : Dt} (h : Rp K F H v d) (s : scl d = true) : Rp K F' H' v d := by
  cases h with
  | non => exact .non
  | bl b => exact .bl b
  | int i => exact .int i
  | str x => exact .str x
  | lst => cases s
  | fz => cases s
  | tup => cases s
  | dic => cases s
  | exn => cases s

/-! ### names and constants -/
theorem se_var {i : Nat} (hk : Δ[i]? = some (.im fr)) : SE K W Δ (tVar i) (.v true fr) (gVar i) := fun f ρ σ H Q r q => by
  obtain ⟨v, d, h1, h2, h3⟩ := r.im i fr hk
  unfold gVar at q
  rw [h2] at q
  exact ⟨v, h1, q v H (Same.refl H) h3⟩
theorem se_own {i : Nat} (hk : Δ[i]? = some (.own .l fr)) : SE K W Δ (tVar i) (.o fr) (gVar i) := fun f ρ σ H Q r q => by
  obtain ⟨p, d, h1, h2, h3, vs, ds, e, h4, h5⟩ := r.ow i .l fr hk
  subst e
  unfold gVar at q
  rw [h2] at q
  exact ⟨_, h1, q p H vs ds rfl (Same.refl H) h4 (r.g0 p h3) h5⟩
theorem se_c {v : V} {d : Dt} (h : Rp K (fun _ => False) (fun _ => none) v d) (s : scl d = true) : SE K W Δ (tC v) (.v true true) (gC d) := fun f ρ σ H Q r q =>
  q v H (Same.refl H) (h.scl_any s)
theorem se_int {i : Int} : SE K W Δ (tC (.int i)) (.v true true) (gC (.int i)) := se_c (.int i) rfl
theorem se_str {x : Str} : SE K W Δ (tC (.str x)) (.v true true) (gC (.str x)) := se_c (.str x) rfl
theorem se_bl {b : Bool} : SE K W Δ (tC (.bl b)) (.v true true) (gC (.bool b)) := se_c (.bl b) rfl
theorem se_non : SE K W Δ (tC .non) (.v true true) (gC .none) := se_c .non rfl

/-! ### weakening -/
theorem Rp.fm {f : Fm} {σ : L2.St} {H : Hp} {v : V} {d : Dt} (h1 : av' = true → av = true) (h2 : fr' = true → fr = true) (h : Rp K (FM f Δ σ av fr) H v d) : Rp K (FM f Δ σ av' fr') H v d := h.weak fun _ x => x.weak h1 h2
theorem SE.wk (h : SE K W Δ te (.v av fr) g) (h1 : av' = true → av = true := by decide) (h2 : fr' = true → fr = true := by decide) : SE K W Δ te (.v av' fr') g := fun f ρ σ H Q r q =>
  h f ρ σ H Q r <| by
    cases e : g ρ with
    | bad => rw [e] at q; exact q
    | ex z => rw [e] at q; exact q
    | ok d => rw [e] at q; exact fun v H' s x => q v H' s (x.fm h1 h2)
theorem SE.ov (h : SE K W Δ te (.o fr) g) : SE K W Δ te (.v false fr) g := fun f ρ σ H Q r q =>
  h f ρ σ H Q r <| by
    cases e : g ρ with
    | bad => rw [e] at q; exact q
    | ex z => rw [e] at q; exact q
    | ok d =>
      rw [e] at q
      intro p H' vs ds ed s hp gp x
      subst ed
      exact q _ H' s (.lst hp ⟨(nomatch ·), fun _ => gp⟩ (x.weak fun _ y => y.weak (fun _ => rfl) id))
theorem SE.nv (h : SE K W Δ te (.new .l fr) g) : SE K W Δ te (.v true fr) g := fun f ρ σ H Q r q =>
  h f ρ σ H Q r <| by
    cases e : g ρ with
    | bad => rw [e] at q; exact q
    | ex z => rw [e] at q; exact q
    | ok d =>
      rw [e] at q
      intro p H' np s x
      obtain ⟨vs, ds, ed, hp, x⟩ := x
      subst ed
      obtain ⟨f1, f2, f3⟩ := r.fresh np
      exact q _ H' s (.lst hp ⟨fun _ => ⟨f1, f2⟩, fun _ => r.g0 p f3⟩ (x.weak fun _ y => y.1))
theorem SE.no (h : SE K W Δ te (.new .l fr) g) : SE K W Δ te (.o fr) g := fun f ρ σ H Q r q =>
  h f ρ σ H Q r <| by
    cases e : g ρ with
    | bad => rw [e] at q; exact q
    | ex z => rw [e] at q; exact q
    | ok d =>
      rw [e] at q
      intro p H' np s x
      obtain ⟨vs, ds, ed, hp, x⟩ := x
      subst ed
      obtain ⟨f1, f2, f3⟩ := r.fresh np
      exact q _ H' vs ds rfl s hp (r.g0 p f3) (x.weak fun _ y => y.1)
theorem SE.pur (h : SE K W Δ te (.v av fr) g) : SE K W Δ te (.v true true) (gPur g) := fun f ρ σ H Q r q =>
  h f ρ σ H Q r <| by
    unfold gPur at q
    cases e : g ρ with
    | bad => rw [e] at q; exact q
    | ex z => rw [e] at q; exact q
    | ok d =>
      rw [e, bnd_ok] at q
      intro v H' s x
      by_cases p : pure1 d = true
      · rw [if_pos p] at q
        exact q v H' s (x.pure p)
      · rw [if_neg p] at q
        exact q.elim
theorem pureIn_list {ds : List Dt} : pureIn (.list ds) = pureA ds := rfl
theorem SE.purN (h : SE K W Δ te (.new .l fr) g) : SE K W Δ te (.new .l true) (gPurN g) := fun f ρ σ H Q r q =>
  h f ρ σ H Q r <| by
    unfold gPurN at q
    cases e : g ρ with
    | bad => rw [e] at q; exact q
    | ex z => rw [e] at q; exact q
    | ok d =>
      rw [e, bnd_ok] at q
      intro p H' np s x
      obtain ⟨vs, ds, ed, hp, x⟩ := x
      subst ed
      rw [pureIn_list] at q
      by_cases pp : pureA ds = true
      · rw [if_pos pp] at q
        exact q p H' np s ⟨vs, ds, rfl, hp, x.pure pp⟩
      · rw [if_neg pp] at q
        exact q.elim
theorem SE.purO (h : SE K W Δ te (.o fr) g) : SE K W Δ te (.o true) (gPurN g) := fun f ρ σ H Q r q =>
  h f ρ σ H Q r <| by
    unfold gPurN at q
    cases e : g ρ with
    | bad => rw [e] at q; exact q
    | ex z => rw [e] at q; exact q
    | ok d =>
      rw [e, bnd_ok] at q
      intro p H' vs ds ed s hp gp x
      subst ed
      rw [pureIn_list] at q
      by_cases pp : pureA ds = true
      · rw [if_pos pp] at q
        exact q p H' vs ds rfl s hp gp (x.pure pp)
      · rw [if_neg pp] at q
        exact q.elim

/-! ### operators on two, on one: the answer a scalar -/
def OSc (K : PySem.W.Frag) (r : R2) (h : Dt → Dt → O Dt) : Prop := ∀ H x y d e Q, Rp K (fun _ => True) H x d → Rp K (fun _ => True) H y e →
  (match h d e with | .ok z => scl z = true ∧ (∀ v, Rp K (fun _ => False) (fun _ => none) v z → Q v H) | _ => False) → r x y H Q
def USc (K : PySem.W.Frag) (r : V → Hp → VK → Prop) (h : Dt → O Dt) : Prop := ∀ H x d Q, Rp K (fun _ => True) H x d →
  (match h d with | .ok z => scl z = true ∧ (∀ v, Rp K (fun _ => False) (fun _ => none) v z → Q v H) | _ => False) → r x H Q
def CSc (K : PySem.W.Frag) (r : List V → Hp → VK → Prop) (h : List Dt → O Dt) : Prop := ∀ H xs ds Q, RpA K (fun _ => True) H xs ds →
  (match h ds with | .ok z => scl z = true ∧ (∀ v, Rp K (fun _ => False) (fun _ => none) v z → Q v H) | _ => False) → r xs H Q
/-- h gives scalars or nothing -/
def Scl2 (h : Dt → Dt → O Dt) : Prop := ∀ d e, (∃ z, h d e = .ok z ∧ scl z = true) ∨ h d e = .bad
def Scl1 (h : Dt → O Dt) : Prop := ∀ d, (∃ z, h d = .ok z ∧ scl z = true) ∨ h d = .bad
def SclA (h : List Dt → O Dt) : Prop := ∀ d, (∃ z, h d = .ok z ∧ scl z = true) ∨ h d = .bad

theorem se_op {r : R2} {h : Dt → Dt → O Dt} (hs : Scl2 h) (ho : OSc K r h) (ha : SE K W Δ ta (.v av fr) ga) (hb : SE K W Δ tb (.v av' fr') gb) : SE K W Δ (tOp r ta tb) (.v true true) (gOp h ga gb) := fun f ρ σ H Q R q => by
  refine ha f ρ σ H _ R ?_
  unfold gOp at q
  cases e1 : ga ρ with
  | bad => rw [e1] at q; exact q
  | ex z => rw [e1] at q; exact q
  | ok d =>
    rw [e1, bnd_ok] at q
    intro v H1 s1 x1
    refine hb f ρ σ H1 _ (R.mono s1) ?_
    cases e2 : gb ρ with
    | bad => rw [e2] at q; exact q
    | ex z => rw [e2] at q; exact fun H' s => q H' (s1.trans s)
    | ok d2 =>
      rw [e2, bnd_ok] at q
      intro v2 H2 s2 x2
      refine ho H2 v v2 d d2 Q ((x1.same s2).weak fun _ _ => trivial) (x2.weak fun _ _ => trivial) ?_
      rcases hs d d2 with ⟨z, ez, sz⟩ | ez
      · rw [ez] at q ⊢
        exact ⟨sz, fun w x => q w H2 (s1.trans s2) (x.scl_any sz)⟩
      · rw [ez] at q
        exact q.elim
theorem se_un {r : V → Hp → VK → Prop} {h : Dt → O Dt} (hs : Scl1 h) (ho : USc K r h) (ha : SE K W Δ ta (.v av fr) ga) : SE K W Δ (tUn r ta) (.v true true) (gUn h ga) := fun f ρ σ H Q R q => by
  refine ha f ρ σ H _ R ?_
  unfold gUn at q
  cases e1 : ga ρ with
  | bad => rw [e1] at q; exact q
  | ex z => rw [e1] at q; exact q
  | ok d =>
    rw [e1, bnd_ok] at q
    intro v H1 s1 x1
    refine ho H1 v d Q (x1.weak fun _ _ => trivial) ?_
    rcases hs d with ⟨z, ez, sz⟩ | ez
    · rw [ez] at q ⊢
      exact ⟨sz, fun w x => q w H1 s1 (x.scl_any sz)⟩
    · rw [ez] at q
      exact q.elim
theorem se_cb {r : List V → Hp → VK → Prop} {h : List Dt → O Dt} (hs : SclA h) (ho : CSc K r h) (ha : SA K W Δ tA av fr gA) : SE K W Δ (tCB r tA) (.v true true) (gCB h gA) := fun f ρ σ H Q R q => by
  refine ha f ρ σ H _ R ?_
  unfold gCB at q
  cases e1 : gA ρ with
  | bad => rw [e1] at q; exact q
  | ex z => rw [e1] at q; exact q
  | ok d =>
    rw [e1, bnd_ok] at q
    intro v H1 s1 x1
    refine ho H1 v d Q (x1.weak fun _ _ => trivial) ?_
    rcases hs d with ⟨z, ez, sz⟩ | ez
    · rw [ez] at q ⊢
      exact ⟨sz, fun w x => q w H1 s1 (x.scl_any sz)⟩
    · rw [ez] at q
      exact q.elim

/-! ### argument lists, tuples, lists -/
theorem sa_nil : SA K W Δ tNil true true gNil := fun f ρ σ H Q R q => q [] H (Same.refl H) .nil
theorem sa_cons (ha : SE K W Δ ta (.v av fr) ga) (hr : SA K W Δ tA av' fr' gA) : SA K W Δ (tCons ta tA) (av && av') (fr && fr') (gCons ga gA) := fun f ρ σ H Q R q => by
  refine ha f ρ σ H _ R ?_
  unfold gCons at q
  cases e1 : ga ρ with
  | bad => rw [e1] at q; exact q
  | ex z => rw [e1] at q; exact q
  | ok d =>
    rw [e1, bnd_ok] at q
    intro v H1 s1 x1
    refine hr f ρ σ H1 _ (R.mono s1) ?_
    cases e2 : gA ρ with
    | bad => rw [e2] at q; exact q
    | ex z => rw [e2] at q; exact fun H' s => q H' (s1.trans s)
    | ok ds =>
      rw [e2, bnd_ok] at q
      intro vs H2 s2 x2
      exact q (v :: vs) H2 (s1.trans s2) (.cons ((x1.same s2).fm (fun h => (Bool.and_eq_true_iff.mp h).1) fun h => (Bool.and_eq_true_iff.mp h).1)
        (x2.weak fun _ y => y.weak (fun h => (Bool.and_eq_true_iff.mp h).2) fun h => (Bool.and_eq_true_iff.mp h).2))
theorem SA.wk (h : SA K W Δ tA av fr gA) (h1 : av' = true → av = true := by decide) (h2 : fr' = true → fr = true := by decide) : SA K W Δ tA av' fr' gA := fun f ρ σ H Q R q =>
  h f ρ σ H Q R <| by
    cases e : gA ρ with
    | bad => rw [e] at q; exact q
    | ex z => rw [e] at q; exact q
    | ok d => rw [e] at q; exact fun v H' s x => q v H' s (x.weak fun _ y => y.weak h1 h2)
theorem sz_le {n : Nat} (h : n ≤ 100000) : n ≤ sizeLine := Nat.le_trans h (by decide)
theorem same_upd {H : Hp} {p : Addr} {o : HO} (h : H p = none) : Same H (upd H p o) := fun b x e => by
  rw [upd_ne (ne_of_none e h)]
  exact e
theorem se_tup (ha : SA K W Δ tA av fr gA) : SE K W Δ (tTup tA) (.v av fr) (gTup gA) := fun f ρ σ H Q R q => by
  refine ha f ρ σ H _ R ?_
  unfold gTup at q
  cases e1 : gA ρ with
  | bad => rw [e1] at q; exact q
  | ex z => rw [e1] at q; exact q
  | ok ds =>
    rw [e1, bnd_ok] at q
    intro vs H1 s1 x1
    by_cases l : ds.length ≤ 100000
    · rw [if_pos l] at q
      refine ⟨by rw [x1.length]; exact sz_le l, fun p np => ?_⟩
      exact q _ _ (s1.trans (same_upd np)) (.tup (.inl (.inl upd_same)) (x1.same (same_upd np)))
    · rw [if_neg l] at q
      exact q.elim
theorem se_lst (ha : SA K W Δ tA true fr gA) : SE K W Δ (tLst tA) (.new .l fr) (gLst gA) := fun f ρ σ H Q R q => by
  refine ha f ρ σ H _ R ?_
  unfold gLst at q
  cases e1 : gA ρ with
  | bad => rw [e1] at q; exact q
  | ex z => rw [e1] at q; exact q
  | ok ds =>
    rw [e1, bnd_ok] at q
    intro vs H1 s1 x1
    by_cases l : ds.length ≤ 100000
    · rw [if_pos l] at q
      refine ⟨by rw [x1.length]; exact sz_le l, fun p np => ?_⟩
      refine q p _ (s1.free np) (s1.trans (same_upd np)) ⟨vs, ds, rfl, upd_same, x1.mono (same_upd np) fun a y z => ⟨y, fun e => z (e ▸ np)⟩⟩
    · rw [if_neg l] at q
      exact q.elim
/-- a list display of anything, only looked at -/
theorem se_lstv (ha : SA K W Δ tA av fr gA) : SE K W Δ (tLst tA) (.v av fr) (gLst gA) := fun f ρ σ H Q R q => by
  refine ha f ρ σ H _ R ?_
  unfold gLst at q
  cases e1 : gA ρ with
  | bad => rw [e1] at q; exact q
  | ex z => rw [e1] at q; exact q
  | ok ds =>
    rw [e1, bnd_ok] at q
    intro vs H1 s1 x1
    by_cases l : ds.length ≤ 100000
    · rw [if_pos l] at q
      refine ⟨by rw [x1.length]; exact sz_le l, fun p np => ?_⟩
      obtain ⟨f1, f2, f3⟩ := R.fresh (s1.free np)
      exact q _ _ (s1.trans (same_upd np)) (.lst upd_same ⟨fun _ => ⟨f1, f2⟩, fun _ => R.g0 p f3⟩ (x1.same (same_upd np)))
    · rw [if_neg l] at q
      exact q.elim

/-! ### tests -/
theorem st_test (ha : SE K W Δ te (.v av fr) g) : ST K W Δ (tTest te) (gTest g) := fun f ρ σ H Q R q => by
  refine ha f ρ σ H _ R ?_
  unfold gTest at q
  cases e1 : g ρ with
  | bad => rw [e1] at q; exact q
  | ex z => rw [e1] at q; exact q
  | ok d =>
    rw [e1, bnd_ok] at q
    intro v H1 s1 x1
    cases x1 with
    | bl b => exact ⟨b, rfl, q H1 s1⟩
    | non => exact q.elim
    | int => exact q.elim
    | str => exact q.elim
    | lst => exact q.elim
    | fz => exact q.elim
    | tup => exact q.elim
    | dic => exact q.elim
    | exn => exact q.elim
theorem st_B (ha : SE K W Δ te (.v av fr) g) : ST K W Δ (tB te) (gTest g) := st_test ha
theorem st_not (h : ST K W Δ tt gt) : ST K W Δ (tNot tt) (gNot gt) := fun f ρ σ H Q R q => by
  refine h f ρ σ H _ R ?_
  unfold gNot at q
  cases e1 : gt ρ with
  | bad => rw [e1] at q; exact q
  | ex z => rw [e1] at q; exact q
  | ok d => rw [e1, bnd_ok] at q; exact q
theorem st_and (h : ST K W Δ tt gt) (h2 : ST K W Δ tu gu) : ST K W Δ (tAnd tt tu) (gAnd gt gu) := fun f ρ σ H Q R q => by
  refine h f ρ σ H _ R ?_
  unfold gAnd at q
  cases e1 : gt ρ with
  | bad => rw [e1] at q; exact q
  | ex z => rw [e1] at q; exact q
  | ok b =>
    rw [e1, bnd_ok] at q
    intro H1 s1
    cases b with
    | false => exact q H1 s1
    | true =>
      refine h2 f ρ σ H1 _ (R.mono s1) ?_
      have q : PoT W σ H (gu ρ) Q := q
      cases e2 : gu ρ with
      | bad => rw [e2] at q; exact q
      | ex z => rw [e2] at q; exact fun H' s => q H' (s1.trans s)
      | ok b => rw [e2] at q; exact fun H' s => q H' (s1.trans s)
theorem st_or (h : ST K W Δ tt gt) (h2 : ST K W Δ tu gu) : ST K W Δ (tOr tt tu) (gOr gt gu) := fun f ρ σ H Q R q => by
  refine h f ρ σ H _ R ?_
  unfold gOr at q
  cases e1 : gt ρ with
  | bad => rw [e1] at q; exact q
  | ex z => rw [e1] at q; exact q
  | ok b =>
    rw [e1, bnd_ok] at q
    intro H1 s1
    cases b with
    | true => exact q H1 s1
    | false =>
      refine h2 f ρ σ H1 _ (R.mono s1) ?_
      have q : PoT W σ H (gu ρ) Q := q
      cases e2 : gu ρ with
      | bad => rw [e2] at q; exact q
      | ex z => rw [e2] at q; exact fun H' s => q H' (s1.trans s)
      | ok b => rw [e2] at q; exact fun H' s => q H' (s1.trans s)
theorem PoE.mono {f : Fm} {σ : L2.St} {H H' : Hp} {o : O Dt} {Q : VK} (s : Same H H') (h : PoE K W f Δ σ H k o Q) : PoE K W f Δ σ H' k o Q := by
  cases o with
  | bad => exact h
  | ex z => exact fun H2 s2 => h H2 (s.trans s2)
  | ok d =>
    cases k with
    | v av fr => exact fun v H2 s2 => h v H2 (s.trans s2)
    | o fr => exact fun p H2 vs ds e s2 => h p H2 vs ds e (s.trans s2)
    | new c fr => exact fun p H2 np s2 => h p H2 (s.free np) (s.trans s2)
theorem se_if (h : ST K W Δ tt gt) (ha : SE K W Δ ta k ga) (hb : SE K W Δ tb k gb) : SE K W Δ (tIf tt ta tb) k (gIf gt ga gb) := fun f ρ σ H Q R q => by
  refine h f ρ σ H _ R ?_
  unfold gIf at q
  cases e1 : gt ρ with
  | bad => rw [e1] at q; exact q
  | ex z => rw [e1] at q; exact q
  | ok b =>
    rw [e1, bnd_ok] at q
    intro H1 s1
    cases b with
    | true => exact ha f ρ σ H1 Q (R.mono s1) (PoE.mono s1 q)
    | false => exact hb f ρ σ H1 Q (R.mono s1) (PoE.mono s1 q)
theorem se_andV (ha : SE K W Δ ta (.v av fr) ga) (hb : SE K W Δ tb (.v true true) gb) : SE K W Δ (tAndV ta tb) (.v true true) (gAndV ga gb) := fun f ρ σ H Q R q => by
  refine ha f ρ σ H _ R ?_
  unfold gAndV at q
  cases e1 : ga ρ with
  | bad => rw [e1] at q; exact q
  | ex z => rw [e1] at q; exact q
  | ok d =>
    rw [e1, bnd_ok] at q
    intro v H1 s1 x1
    cases x1 with
    | bl b =>
      refine ⟨b, rfl, ?_⟩
      cases b with
      | true => exact hb f ρ σ H1 Q (R.mono s1) (PoE.mono s1 q)
      | false => exact q _ H1 s1 (.bl false)
    | non => exact q.elim
    | int => exact q.elim
    | str => exact q.elim
    | lst => exact q.elim
    | fz => exact q.elim
    | tup => exact q.elim
    | dic => exact q.elim
    | exn => exact q.elim
theorem se_orV (ha : SE K W Δ ta (.v av fr) ga) (hb : SE K W Δ tb (.v true true) gb) : SE K W Δ (tOrV ta tb) (.v true true) (gOrV ga gb) := fun f ρ σ H Q R q => by
  refine ha f ρ σ H _ R ?_
  unfold gOrV at q
  cases e1 : ga ρ with
  | bad => rw [e1] at q; exact q
  | ex z => rw [e1] at q; exact q
  | ok d =>
    rw [e1, bnd_ok] at q
    intro v H1 s1 x1
    cases x1 with
    | bl b =>
      refine ⟨b, rfl, ?_⟩
      cases b with
      | true => exact q _ H1 s1 (.bl true)
      | false => exact hb f ρ σ H1 Q (R.mono s1) (PoE.mono s1 q)
    | non => exact q.elim
    | int => exact q.elim
    | str => exact q.elim
    | lst => exact q.elim
    | fz => exact q.elim
    | tup => exact q.elim
    | dic => exact q.elim
    | exn => exact q.elim
theorem se_notV (ha : SE K W Δ ta (.v av fr) ga) : SE K W Δ (tNotV ta) (.v true true) (gNotV ga) := fun f ρ σ H Q R q => by
  refine ha f ρ σ H _ R ?_
  unfold gNotV at q
  cases e1 : ga ρ with
  | bad => rw [e1] at q; exact q
  | ex z => rw [e1] at q; exact q
  | ok d =>
    rw [e1, bnd_ok] at q
    intro v H1 s1 x1
    cases x1 with
    | bl b => exact ⟨b, rfl, q _ H1 s1 (.bl _)⟩
    | non => exact q.elim
    | int => exact q.elim
    | str => exact q.elim
    | lst => exact q.elim
    | fz => exact q.elim
    | tup => exact q.elim
    | dic => exact q.elim
    | exn => exact q.elim
end
end Sim
end T_SimB

section T_SimC
set_option Elab.async false
set_option linter.all false
set_option maxRecDepth 100000
/-! SimC: the rules by which an expression of the text gets its closure. -/
namespace Sim
open PySem PySem.Spec L2
open PyProof.Rows hiding St

structure PD (X : Cx) (K : PySem.W.Frag) (W : Wt) (Δ : List Kd) (e : Expr) (te : TE) (k : Rk) (g : Gd) : Prop where
  pe : PE X e te
  hK : X.K = K
  se : SE K W Δ te k g
structure TD (X : Cx) (K : PySem.W.Frag) (W : Wt) (Δ : List Kd) (e : Expr) (tt : TT) (g : List Dt → O Bool) : Prop where
  pt : PT X e tt
  hK : X.K = K
  st : ST K W Δ tt g
structure WD (X : Cx) (K : PySem.W.Frag) (W : Wt) (Δ : List Kd) (e : Expr) (tt : TT) (g : List Dt → O Bool) : Prop where
  pw : PW X e tt
  hK : X.K = K
  st : ST K W Δ tt g
structure AD (X : Cx) (K : PySem.W.Frag) (W : Wt) (Δ : List Kd) (es : List Expr) (ta : TA) (av fr : Bool) (g : List Dt → O (List Dt)) : Prop where
  pa : PA X es ta
  hK : X.K = K
  sa : SA K W Δ ta av fr g

/-! ### the closures of operators -/
def hI0 (g : Int → Int → Int) : Dt → Dt → O Dt := fun d e => match d, e with
  | .int i, .int j => .ok (.int (g i j))
  | _, _ => .bad
def hI (C : Int → Int → Bool) (g : Int → Int → Int) : Dt → Dt → O Dt := fun d e => match d, e with
  | .int i, .int j => if C i j then .ok (.int (g i j)) else .bad
  | _, _ => .bad
def hB0 (p : Int → Int → Bool) : Dt → Dt → O Dt := fun d e => match d, e with
  | .int i, .int j => .ok (.bool (p i j))
  | _, _ => .bad
def hU (g : Int → Int) : Dt → O Dt := fun d => match d with
  | .int i => .ok (.int (g i))
  | _ => .bad
def hAdd := hI0 fun i j => i + j
def hSub := hI0 fun i j => i - j
def cMul (i j : Int) : Bool := decide (i.natAbs < 2 ^ 64) || decide (j.natAbs < 2 ^ 64)
def hMul := hI cMul fun i j => i * j
def cDiv (_ j : Int) : Bool := decide (0 < j) && decide (j.natAbs < 2 ^ 400)
def hDiv := hI cDiv fun i j => i / j
def cMod (_ j : Int) : Bool := decide (0 < j)
def hMod := hI cMod fun i j => i % j
def cPow (i j : Int) : Bool := decide (0 ≤ j) && decide (j ≤ 1000000) && decide (i.natAbs < 2 ^ 64)
def hPow := hI cPow fun i j => i ^ j.toNat
def cShr (_ j : Int) : Bool := decide (0 ≤ j)
def hShr := hI cShr fun i j => i / 2 ^ j.toNat
def hBand := hI0 fun i j => Builtin.bitAnd i j
def hLt := hB0 fun i j => decide (i < j)
def hLe := hB0 fun i j => decide (i ≤ j)
def hGt := hB0 fun i j => decide (j < i)
def hGe := hB0 fun i j => decide (j ≤ i)
def hEq : Dt → Dt → O Dt := fun d e => if SeqAt.shaped d && SeqAt.shaped e then .ok (.bool (PyData.eqv d e)) else .bad
def hNe : Dt → Dt → O Dt := fun d e => if SeqAt.shaped d && SeqAt.shaped e then .ok (.bool (!PyData.eqv d e)) else .bad
def hIs : Dt → Dt → O Dt := fun d e => match e with
  | .none => .ok (.bool (match d with | .none => true | _ => false))
  | _ => .bad
def hIsNot : Dt → Dt → O Dt := fun d e => match e with
  | .none => .ok (.bool (match d with | .none => false | _ => true))
  | _ => .bad
def hIn : Dt → Dt → O Dt := fun d e => match e with
  | .list ds => if SeqAt.shaped d && SeqAt.shaped e then .ok (.bool (ds.any fun z => PyData.eqv z d)) else .bad
  | .tuple ds => if SeqAt.shaped d && SeqAt.shaped e then .ok (.bool (ds.any fun z => PyData.eqv z d)) else .bad
  | _ => .bad
def hNotIn : Dt → Dt → O Dt := fun d e => match e with
  | .list ds => if SeqAt.shaped d && SeqAt.shaped e then .ok (.bool (!ds.any fun z => PyData.eqv z d)) else .bad
  | .tuple ds => if SeqAt.shaped d && SeqAt.shaped e then .ok (.bool (!ds.any fun z => PyData.eqv z d)) else .bad
  | _ => .bad
def hLen : List Dt → O Dt := fun ds => match ds with
  | [.list xs] => .ok (.int xs.length)
  | [.tuple xs] => .ok (.int xs.length)
  | [.str x] => if x.length ≤ 100000 then .ok (.int x.length) else .bad
  | _ => .bad
def hMin2 : List Dt → O Dt := fun ds => match ds with
  | [.int i, .int j] => .ok (.int (if j < i then j else i))
  | _ => .bad
def hMax2 : List Dt → O Dt := fun ds => match ds with
  | [.int i, .int j] => .ok (.int (if j > i then j else i))
  | _ => .bad
def hMin3 : List Dt → O Dt := fun ds => match ds with
  | [.int i, .int j, .int k] => .ok (.int (if j < i then (if k < j then k else j) else (if k < i then k else i)))
  | _ => .bad
def hBits : Dt → O Dt := fun d => match d with
  | .int i => .ok (.int (Builtin.Int.intBits i : Nat))
  | _ => .bad
def hInt1 : List Dt → O Dt := fun ds => match ds with
  | [.int i] => .ok (.int i)
  | [.bool k] => .ok (.int (if k then 1 else 0))
  | _ => .bad
def allB : List Dt → Option (List Bool)
  | [] => some []
  | .bool b :: r => (allB r).map (b :: ·)
  | _ => none
def allI : List Dt → Option (List Int)
  | [] => some []
  | .int b :: r => (allI r).map (b :: ·)
  | _ => none
def hAll : List Dt → O Dt := fun ds => match ds with
  | [.list xs] => match allB xs with
    | some bs => .ok (.bool (bs.all id))
    | none => .bad
  | _ => .bad
def hAny : List Dt → O Dt := fun ds => match ds with
  | [.list xs] => match allB xs with
    | some bs => .ok (.bool (bs.any id))
    | none => .bad
  | _ => .bad
def hSum : List Dt → O Dt := fun ds => match ds with
  | [.list xs] => match allI xs with
    | some bs => .ok (.int bs.sum)
    | none => .bad
  | _ => .bad

section
variable {K : PySem.W.Frag}

theorem scl_I0 {g} : Scl2 (hI0 g) := fun d e => by cases d <;> cases e <;> first | exact .inr rfl | exact .inl ⟨_, rfl, rfl⟩
theorem scl_B0 {g} : Scl2 (hB0 g) := fun d e => by cases d <;> cases e <;> first | exact .inr rfl | exact .inl ⟨_, rfl, rfl⟩
theorem scl_I {C g} : Scl2 (hI C g) := fun d e => by
  cases d <;> cases e <;> first | exact .inr rfl | skip
  unfold hI
  simp only
  split
  · exact .inl ⟨_, rfl, rfl⟩
  · exact .inr rfl
theorem osc_I0 {g : Int → Int → Int} : OSc K (rI0 fun i j => .int (g i j)) (hI0 g) := fun H x y d e Q hx hy h => by
  cases hx <;> first | exact h.elim | skip
  cases hy <;> first | exact h.elim | skip
  exact ⟨_, _, rfl, rfl, h.2 _ (.int _)⟩
theorem osc_B0 {g : Int → Int → Bool} : OSc K (rI0 fun i j => .bl (g i j)) (hB0 g) := fun H x y d e Q hx hy h => by
  cases hx <;> first | exact h.elim | skip
  cases hy <;> first | exact h.elim | skip
  exact ⟨_, _, rfl, rfl, h.2 _ (.bl _)⟩
theorem osc_I {C : Int → Int → Bool} {C' : Int → Int → Prop} {g : Int → Int → Int} (hc : ∀ i j, C i j = true → C' i j) : OSc K (rI C' fun i j => .int (g i j)) (hI C g) := fun H x y d e Q hx hy h => by
  cases hx <;> first | exact h.elim | skip
  cases hy <;> first | exact h.elim | skip
  rename_i i j
  unfold hI at h
  simp only at h
  by_cases c : C i j = true
  · rw [if_pos c] at h
    exact ⟨_, _, rfl, rfl, hc _ _ c, h.2 _ (.int _)⟩
  · rw [if_neg c] at h
    exact h.elim
theorem usc_U {g : Int → Int} : USc K (rU fun i => .int (g i)) (hU g) := fun H x d Q hx h => by
  cases hx <;> first | exact h.elim | skip
  exact ⟨_, rfl, h.2 _ (.int _)⟩
theorem scl_U {g} : Scl1 (hU g) := fun d => by cases d <;> first | exact .inr rfl | exact .inl ⟨_, rfl, rfl⟩
theorem cMul_ok {i j : Int} (h : cMul i j = true) : CMul i j := by
  unfold cMul at h
  rw [Bool.or_eq_true, decide_eq_true_eq, decide_eq_true_eq] at h
  rcases h with h | h
  · exact .inl (by omega)
  · exact .inr (by omega)
theorem cDiv_ok {i j : Int} (h : cDiv i j = true) : CDivW i j := by
  unfold cDiv at h
  rw [Bool.and_eq_true, decide_eq_true_eq, decide_eq_true_eq] at h
  exact wide_div h.1 h.2 (by decide) (by decide)
theorem cMod_ok {i j : Int} (h : cMod i j = true) : 0 < j := by
  unfold cMod at h
  rw [decide_eq_true_eq] at h
  exact h
theorem cPow_ok {i j : Int} (h : cPow i j = true) : CPow i j := by
  unfold cPow at h
  rw [Bool.and_eq_true, Bool.and_eq_true, decide_eq_true_eq, decide_eq_true_eq, decide_eq_true_eq] at h
  exact ⟨h.1.1, h.1.2, h.2⟩
theorem cShr_ok {i j : Int} (h : cShr i j = true) : 0 ≤ j := by
  unfold cShr at h
  rw [decide_eq_true_eq] at h
  exact h
theorem scl_eq : Scl2 hEq := fun d e => by
  unfold hEq
  split
  · exact .inl ⟨_, rfl, rfl⟩
  · exact .inr rfl
theorem scl_ne : Scl2 hNe := fun d e => by
  unfold hNe
  split
  · exact .inl ⟨_, rfl, rfl⟩
  · exact .inr rfl
theorem osc_eq : OSc K (rEqD K) hEq := fun H x y d e Q hx hy h => by
  unfold hEq at h
  by_cases c : (SeqAt.shaped d && SeqAt.shaped e) = true
  · rw [if_pos c] at h
    rw [Bool.and_eq_true] at c
    exact ⟨d, e, hx.dp (shaped_lay c.1), hy.dp (shaped_lay c.2), c.1, c.2, h.2 _ (.bl _)⟩
  · rw [if_neg c] at h
    exact h.elim
theorem osc_ne : OSc K (rNeD K) hNe := fun H x y d e Q hx hy h => by
  unfold hNe at h
  by_cases c : (SeqAt.shaped d && SeqAt.shaped e) = true
  · rw [if_pos c] at h
    rw [Bool.and_eq_true] at c
    exact ⟨d, e, hx.dp (shaped_lay c.1), hy.dp (shaped_lay c.2), c.1, c.2, h.2 _ (.bl _)⟩
  · rw [if_neg c] at h
    exact h.elim
theorem scl_is : Scl2 hIs := fun d e => by cases e <;> first | exact .inr rfl | exact .inl ⟨_, rfl, rfl⟩
theorem scl_isNot : Scl2 hIsNot := fun d e => by cases e <;> first | exact .inr rfl | exact .inl ⟨_, rfl, rfl⟩
theorem osc_is : OSc K (fun x y H Q => y = .non ∧ Q (.bl (decide (x = .non))) H) hIs := fun H x y d e Q hx hy h => by
  cases hy <;> first | exact h.elim | skip
  refine ⟨rfl, h.2 _ ?_⟩
  cases hx <;> exact .bl _
theorem osc_isNot : OSc K (fun x y H Q => y = .non ∧ Q (.bl (!decide (x = .non))) H) hIsNot := fun H x y d e Q hx hy h => by
  cases hy <;> first | exact h.elim | skip
  refine ⟨rfl, h.2 _ ?_⟩
  cases hx <;> exact .bl _

/-! ### in, not in -/
def rInDT (K : PySem.W.Frag) (neg : Bool) : R2 := fun x y H Q => ∃ d e ds, Dp K H x d ∧ Dp K H y e ∧ (e = .list ds ∨ e = .tuple ds) ∧ SeqAt.shaped d = true ∧ SeqAt.shaped e = true ∧ Q (.bl (if neg then !ds.any fun z => PyData.eqv z d else ds.any fun z => PyData.eqv z d)) H
theorem room_in_any {A : Around} {d e : PyData} {ds : List PyData} (sd : SeqAt.shaped d = true) (hu : A.units + 65 < cLine) : A.units + 1 + min (PyData.depthAll ds) d.depth < cLine := by
  have h1 := SeqAt.depth_of_shaped sd
  have h2 : min (PyData.depthAll ds) d.depth ≤ d.depth := Nat.min_le_right _ _
  omega
theorem op_inDT {X : Cx} (hu : X.A.units + 65 < cLine) : OpR X (compareOp .In) (rInDT X.K false) := by
  intro pins s σ H x y v u Q I rx ry h
  obtain ⟨d, e, ds, hd, he, ee, sd, se, q⟩ := h
  obtain ⟨as, r1⟩ := Dp.reads I d x v hd rx
  obtain ⟨bs, r2⟩ := Dp.reads I e y u he ry
  rcases ee with rfl | rfl
  · exact SeqAt.in_list_reads r2 r1 (SeqAt.canLay_of_shaped se) (SeqAt.canLay_of_shaped sd) (room_in_any (e := d) sd hu) ⟨.bl _, H, I, rfl, q⟩
  · exact SeqAt.in_tuple_reads r2 r1 (SeqAt.canLay_of_shaped se) (SeqAt.canLay_of_shaped sd) (room_in_any (e := d) sd hu) ⟨.bl _, H, I, rfl, q⟩
theorem op_notInDT {X : Cx} (hu : X.A.units + 65 < cLine) : OpR X (compareOp .NotIn) (rInDT X.K true) := by
  intro pins s σ H x y v u Q I rx ry h
  obtain ⟨d, e, ds, hd, he, ee, sd, se, q⟩ := h
  obtain ⟨as, r1⟩ := Dp.reads I d x v hd rx
  obtain ⟨bs, r2⟩ := Dp.reads I e y u he ry
  rcases ee with rfl | rfl
  · exact SeqAt.notIn_list_reads r2 r1 (SeqAt.canLay_of_shaped se) (SeqAt.canLay_of_shaped sd) (room_in_any (e := d) sd hu) ⟨.bl _, H, I, rfl, q⟩
  · exact SeqAt.notIn_tuple_reads r2 r1 (SeqAt.canLay_of_shaped se) (SeqAt.canLay_of_shaped sd) (room_in_any (e := d) sd hu) ⟨.bl _, H, I, rfl, q⟩
theorem scl_in : Scl2 hIn := fun d e => by
  unfold hIn
  cases e <;> first | exact .inr rfl | (simp only; split <;> first | exact .inl ⟨_, rfl, rfl⟩ | exact .inr rfl)
theorem scl_notIn : Scl2 hNotIn := fun d e => by
  unfold hNotIn
  cases e <;> first | exact .inr rfl | (simp only; split <;> first | exact .inl ⟨_, rfl, rfl⟩ | exact .inr rfl)
theorem osc_in : OSc K (rInDT K false) hIn := fun H x y d e Q hx hy h => by
  unfold hIn at h
  cases e <;> first | exact h.elim | skip
  all_goals rename_i ds
  · simp only at h
    generalize he : (PyData.list ds : PyData) = e at h hy
    by_cases c : (SeqAt.shaped d && SeqAt.shaped e) = true
    · rw [if_pos c] at h
      rw [Bool.and_eq_true] at c
      exact ⟨d, e, ds, hx.dp (shaped_lay c.1), hy.dp (shaped_lay c.2), .inl he.symm, c.1, c.2, h.2 _ (.bl _)⟩
    · rw [if_neg c] at h
      exact h.elim
  · simp only at h
    generalize he : (PyData.tuple ds : PyData) = e at h hy
    by_cases c : (SeqAt.shaped d && SeqAt.shaped e) = true
    · rw [if_pos c] at h
      rw [Bool.and_eq_true] at c
      exact ⟨d, e, ds, hx.dp (shaped_lay c.1), hy.dp (shaped_lay c.2), .inr he.symm, c.1, c.2, h.2 _ (.bl _)⟩
    · rw [if_neg c] at h
      exact h.elim
theorem osc_notIn : OSc K (rInDT K true) hNotIn := fun H x y d e Q hx hy h => by
  unfold hNotIn at h
  cases e <;> first | exact h.elim | skip
  all_goals rename_i ds
  · simp only at h
    generalize he : (PyData.list ds : PyData) = e at h hy
    by_cases c : (SeqAt.shaped d && SeqAt.shaped e) = true
    · rw [if_pos c] at h
      rw [Bool.and_eq_true] at c
      exact ⟨d, e, ds, hx.dp (shaped_lay c.1), hy.dp (shaped_lay c.2), .inl he.symm, c.1, c.2, h.2 _ (.bl _)⟩
    · rw [if_neg c] at h
      exact h.elim
  · simp only at h
    generalize he : (PyData.tuple ds : PyData) = e at h hy
    by_cases c : (SeqAt.shaped d && SeqAt.shaped e) = true
    · rw [if_pos c] at h
      rw [Bool.and_eq_true] at c
      exact ⟨d, e, ds, hx.dp (shaped_lay c.1), hy.dp (shaped_lay c.2), .inr he.symm, c.1, c.2, h.2 _ (.bl _)⟩
    · rw [if_neg c] at h
      exact h.elim

/-! ### calls of built-ins with a scalar's answer -/
theorem Rp.lenV {F : Addr → Prop} {H : Hp} {v : V} {xs : List Dt} (h : Rp K F H v (.list xs)) : LenV K v H xs.length := by
  cases h with
  | lst h _ r => exact .inl ⟨_, .inl (.inl h), by first | exact r.length | exact r.length.symm⟩
  | fz h r => exact .inl ⟨_, h.sql, by first | exact r.length | exact r.length.symm⟩
theorem Rp.lenVt {F : Addr → Prop} {H : Hp} {v : V} {xs : List Dt} (h : Rp K F H v (.tuple xs)) : LenV K v H xs.length := by
  cases h with
  | tup h r => exact .inr ⟨_, h, by first | exact r.length | exact r.length.symm⟩
theorem csc_len : CSc K (fun xs H Q => ∃ x n, xs = [x] ∧ LenV K x H n ∧ Q (.int n) H) hLen := fun H xs ds Q hx h => by
  unfold hLen at h
  split at h
  · rename_i e
    split at e
    · cases hx with
      | cons h1 h2 =>
        cases h2
        cases e
        exact ⟨_, _, rfl, h1.lenV, h.2 _ (.int _)⟩
    · cases hx with
      | cons h1 h2 =>
        cases h2
        cases e
        exact ⟨_, _, rfl, h1.lenVt, h.2 _ (.int _)⟩
    · split at e
      · rename_i c
        cases e
        cases hx with
        | cons h1 h2 =>
          cases h2
          cases h1
          exact ⟨_, _, rfl, ⟨sz_le c, rfl⟩, h.2 _ (.int _)⟩
      · cases e
    · cases e
  · exact h.elim
theorem scl_len : SclA hLen := fun ds => by
  unfold hLen
  split
  · exact .inl ⟨_, rfl, rfl⟩
  · exact .inl ⟨_, rfl, rfl⟩
  · split
    · exact .inl ⟨_, rfl, rfl⟩
    · exact .inr rfl
  · exact .inr rfl
theorem rpInt {F : Addr → Prop} {H : Hp} {v : V} {i : Int} (h : Rp K F H v (.int i)) : v = .int i := by cases h; rfl
theorem rpBl {F : Addr → Prop} {H : Hp} {v : V} {i : Bool} (h : Rp K F H v (.bool i)) : v = .bl i := by cases h; rfl
theorem csc_min2 : CSc K (fun xs H Q => ∃ i j, xs = [.int i, .int j] ∧ Q (.int (if j < i then j else i)) H) hMin2 := fun H xs ds Q hx h => by
  unfold hMin2 at h
  split at h
  · rename_i e
    split at e
    · cases hx with
      | cons h1 h2 =>
        cases h2 with
        | cons h2 h3 =>
          cases h3
          cases e
          rw [rpInt h1, rpInt h2]
          exact ⟨_, _, rfl, h.2 _ (.int _)⟩
    · cases e
  · exact h.elim
theorem scl_min2 : SclA hMin2 := fun ds => by
  unfold hMin2
  split
  · exact .inl ⟨_, rfl, rfl⟩
  · exact .inr rfl
theorem csc_max2 : CSc K (fun xs H Q => ∃ i j, xs = [.int i, .int j] ∧ Q (.int (if j > i then j else i)) H) hMax2 := fun H xs ds Q hx h => by
  unfold hMax2 at h
  split at h
  · rename_i e
    split at e
    · cases hx with
      | cons h1 h2 =>
        cases h2 with
        | cons h2 h3 =>
          cases h3
          cases e
          rw [rpInt h1, rpInt h2]
          exact ⟨_, _, rfl, h.2 _ (.int _)⟩
    · cases e
  · exact h.elim
theorem scl_max2 : SclA hMax2 := fun ds => by
  unfold hMax2
  split
  · exact .inl ⟨_, rfl, rfl⟩
  · exact .inr rfl
def rMin3 : List V → Hp → VK → Prop := fun xs H Q => ∃ i j k, xs = [.int i, .int j, .int k] ∧ Q (.int (if j < i then (if k < j then k else j) else (if k < i then k else i))) H
theorem call_min3 {X : Cx} (hc : X.calm = true) : CallR X (.builtin "min") rMin3 := by
  intro pins s σ H xs us Q I r h
  obtain ⟨i, j, k, rfl, q⟩ := h
  cases r with
  | cons r1 r =>
    cases r with
    | cons r2 r =>
      cases r with
      | cons r3 r =>
        cases r
        obtain ⟨t1, rfl⟩ := r1
        obtain ⟨t2, rfl⟩ := r2
        obtain ⟨t3, rfl⟩ := r3
        refine min_three_ints (I.ok.hd hc) fun h' tk k => ⟨_, H, I.kept k, ?_, q⟩
        split
        · split <;> exact ⟨_, rfl⟩
        · split <;> exact ⟨_, rfl⟩
theorem csc_min3 : CSc K rMin3 hMin3 := fun H xs ds Q hx h => by
  unfold hMin3 at h
  split at h
  · rename_i e
    split at e
    · cases hx with
      | cons h1 h2 =>
        cases h2 with
        | cons h2 h3 =>
          cases h3 with
          | cons h3 h4 =>
            cases h4
            cases e
            rw [rpInt h1, rpInt h2, rpInt h3]
            exact ⟨_, _, _, rfl, h.2 _ (.int _)⟩
    · cases e
  · exact h.elim
theorem scl_min3 : SclA hMin3 := fun ds => by
  unfold hMin3
  split
  · exact .inl ⟨_, rfl, rfl⟩
  · exact .inr rfl
theorem csc_int1 : CSc K (fun xs H Q => (∃ i, xs = [.int i] ∧ Q (.int i) H) ∨ ∃ k, xs = [.bl k] ∧ Q (.int (if k then 1 else 0)) H) hInt1 := fun H xs ds Q hx h => by
  unfold hInt1 at h
  split at h
  · rename_i e
    split at e
    · cases hx with
      | cons h1 h2 =>
        cases h2
        cases e
        rw [rpInt h1]
        exact .inl ⟨_, rfl, h.2 _ (.int _)⟩
    · cases hx with
      | cons h1 h2 =>
        cases h2
        cases e
        rw [rpBl h1]
        exact .inr ⟨_, rfl, h.2 _ (.int _)⟩
    · cases e
  · exact h.elim
theorem scl_int1 : SclA hInt1 := fun ds => by
  unfold hInt1
  split
  · exact .inl ⟨_, rfl, rfl⟩
  · exact .inl ⟨_, rfl, rfl⟩
  · exact .inr rfl
theorem rp_bools {F : Addr → Prop} {H : Hp} : ∀ {xs : List V} {ds : List Dt} {bs : List Bool}, RpA K F H xs ds → allB ds = some bs → xs = bs.map V.bl
  | _, _, _, .nil, e => by cases e; rfl
  | _, _, bs, .cons (d := d) h r, e => by
    cases h <;> first | (cases e; done) | skip
    rename_i b _ _
    unfold allB at e
    cases q : allB _ with
    | none => rw [q] at e; cases e
    | some cs =>
      rw [q] at e
      cases e
      rw [rp_bools r q]
      rfl
theorem rp_ints {F : Addr → Prop} {H : Hp} : ∀ {xs : List V} {ds : List Dt} {bs : List Int}, RpA K F H xs ds → allI ds = some bs → xs = bs.map V.int
  | _, _, _, .nil, e => by cases e; rfl
  | _, _, bs, .cons (d := d) h r, e => by
    cases h <;> first | (cases e; done) | skip
    rename_i b _ _
    unfold allI at e
    cases q : allI _ with
    | none => rw [q] at e; cases e
    | some cs =>
      rw [q] at e
      cases e
      rw [rp_ints r q]
      rfl
theorem Rp.sql {F : Addr → Prop} {H : Hp} {v : V} {ds : List Dt} (h : Rp K F H v (.list ds)) : ∃ a xs, v = .ref a ∧ SqL K H a xs ∧ RpA K F H xs ds := by
  cases h with
  | lst h _ r => exact ⟨_, _, rfl, .inl (.inl h), r⟩
  | fz h r => exact ⟨_, _, rfl, h.sql, r⟩
theorem csc_all : CSc K (rAll K) hAll := fun H xs ds Q hx h => by
  unfold hAll at h
  split at h
  · rename_i e
    split at e
    · split at e
      · rename_i bs eb
        cases e
        cases hx with
        | cons h1 h2 =>
          cases h2
          obtain ⟨a, ys, rfl, hs, r⟩ := h1.sql
          rw [rp_bools r eb] at hs
          exact ⟨a, bs, rfl, hs, h.2 _ (.bl _)⟩
      · cases e
    · cases e
  · exact h.elim
theorem scl_all : SclA hAll := fun ds => by
  unfold hAll
  split
  · split
    · exact .inl ⟨_, rfl, rfl⟩
    · exact .inr rfl
  · exact .inr rfl
theorem csc_any : CSc K (rAny K) hAny := fun H xs ds Q hx h => by
  unfold hAny at h
  split at h
  · rename_i e
    split at e
    · split at e
      · rename_i bs eb
        cases e
        cases hx with
        | cons h1 h2 =>
          cases h2
          obtain ⟨a, ys, rfl, hs, r⟩ := h1.sql
          rw [rp_bools r eb] at hs
          exact ⟨a, bs, rfl, hs, h.2 _ (.bl _)⟩
      · cases e
    · cases e
  · exact h.elim
theorem scl_any : SclA hAny := fun ds => by
  unfold hAny
  split
  · split
    · exact .inl ⟨_, rfl, rfl⟩
    · exact .inr rfl
  · exact .inr rfl
theorem csc_sum : CSc K (rSum K) hSum := fun H xs ds Q hx h => by
  unfold hSum at h
  split at h
  · rename_i e
    split at e
    · split at e
      · rename_i bs eb
        cases e
        cases hx with
        | cons h1 h2 =>
          cases h2
          obtain ⟨a, ys, rfl, hs, r⟩ := h1.sql
          rw [rp_ints r eb] at hs
          exact ⟨a, bs, rfl, hs, h.2 _ (.int _)⟩
      · cases e
    · cases e
  · exact h.elim
theorem scl_sum : SclA hSum := fun ds => by
  unfold hSum
  split
  · split
    · exact .inl ⟨_, rfl, rfl⟩
    · exact .inr rfl
  · exact .inr rfl
theorem usc_bits : USc K (fun x H Q => ∃ i, x = .int i ∧ Q (.int (Builtin.Int.intBits i : Nat)) H) hBits := fun H x d Q hx h => by
  cases hx <;> first | exact h.elim | skip
  exact ⟨_, rfl, h.2 _ (.int _)⟩
theorem scl_bits : Scl1 hBits := fun d => by cases d <;> first | exact .inr rfl | exact .inl ⟨_, rfl, rfl⟩
end

/-! ### the rules -/
section
variable {X : Cx} {K : PySem.W.Frag} {W : Wt} {Δ : List Kd} {a b c e : Expr} {es : List Expr} {ta tb tc te : TE} {tt tu : TT} {tA : TA} {ga gb gc g : Gd} {gt gu : List Dt → O Bool} {gA : List Dt → O (List Dt)} {k k1 k2 : Rk} {av fr av' fr' : Bool} {pos : Pos}

theorem x_var (i : Nat) {x : Str} (hk : Δ[i]? = some (.im fr) := by rfl) (hN : X.N[i]? = some x := by rfl) (hv : Vis X.env.scope x := by first | exact Or.inl rfl | exact Or.inr (Or.inl rfl) | exact Or.inr (Or.inr rfl)) (hd : (x == ("__debug__" : Str)) = false := by decide)
    (hcd : (x == ("__classdict__" : Str)) = false := by decide) (hK : X.K = K := by rfl) : PD X K W Δ (.Name x pos) (tVar i) (.v true fr) (gVar i) := ⟨pe_var hN hv hd hcd, hK, se_var hk⟩
theorem x_own (i : Nat) {x : Str} (hk : Δ[i]? = some (.own .l fr) := by rfl) (hN : X.N[i]? = some x := by rfl) (hv : Vis X.env.scope x := by first | exact Or.inl rfl | exact Or.inr (Or.inl rfl) | exact Or.inr (Or.inr rfl)) (hd : (x == ("__debug__" : Str)) = false := by decide)
    (hcd : (x == ("__classdict__" : Str)) = false := by decide) (hK : X.K = K := by rfl) : PD X K W Δ (.Name x pos) (tVar i) (.o fr) (gVar i) := ⟨pe_var hN hv hd hcd, hK, se_own hk⟩
theorem x_int {i : Int} {j} (hK : X.K = K := by rfl) : PD X K W Δ (.Constant (.int i) j pos) (tC (.int i)) (.v true true) (gC (.int i)) := ⟨pe_int, hK, se_int⟩
theorem x_bl {i : Bool} {j} (hK : X.K = K := by rfl) : PD X K W Δ (.Constant (.bool i) j pos) (tC (.bl i)) (.v true true) (gC (.bool i)) := ⟨pe_bl, hK, se_bl⟩
theorem x_non {j} (hK : X.K = K := by rfl) : PD X K W Δ (.Constant .none j pos) (tC .non) (.v true true) (gC .none) := ⟨pe_non, hK, se_non⟩
theorem x_str {x : Str} {j} (hK : X.K = K := by rfl) : PD X K W Δ (.Constant (.str x) j pos) (tC (.str x)) (.v true true) (gC (.str x)) := ⟨pe_str, hK, se_str⟩
theorem x_glob {x : Str} {v : V} {u : Value} {d : Dt} (hm : X.mg x = some u) (r : RelV v u) (hr : Rp K (fun _ => False) (fun _ => none) v d) (s : scl d = true := by rfl) (hg : Gl X x := by rfl) (hd : (x == ("__debug__" : Str)) = false := by decide) (hK : X.K = K := by rfl) :
    PD X K W Δ (.Name x pos) (tC v) (.v true true) (gC d) := ⟨pe_glob hg hm r hd, hK, se_c hr s⟩

theorem PD.wk (h : PD X K W Δ e te (.v av fr) g) (h1 : av' = true → av = true := by decide) (h2 : fr' = true → fr = true := by decide) : PD X K W Δ e te (.v av' fr') g := ⟨h.pe, h.hK, h.se.wk h1 h2⟩
theorem PD.ov (h : PD X K W Δ e te (.o fr) g) : PD X K W Δ e te (.v false fr) g := ⟨h.pe, h.hK, h.se.ov⟩
theorem PD.nv (h : PD X K W Δ e te (.new .l fr) g) : PD X K W Δ e te (.v true fr) g := ⟨h.pe, h.hK, h.se.nv⟩
theorem PD.no (h : PD X K W Δ e te (.new .l fr) g) : PD X K W Δ e te (.o fr) g := ⟨h.pe, h.hK, h.se.no⟩
theorem PD.pur (h : PD X K W Δ e te (.v av fr) g) : PD X K W Δ e te (.v true true) (gPur g) := ⟨h.pe, h.hK, h.se.pur⟩
theorem PD.purN (h : PD X K W Δ e te (.new .l fr) g) : PD X K W Δ e te (.new .l true) (gPurN g) := ⟨h.pe, h.hK, h.se.purN⟩
theorem PD.purO (h : PD X K W Δ e te (.o fr) g) : PD X K W Δ e te (.o true) (gPurN g) := ⟨h.pe, h.hK, h.se.purO⟩

theorem x_add (ha : PD X K W Δ a ta (.v av fr) ga) (hb : PD X K W Δ b tb (.v av' fr') gb) : PD X K W Δ (.BinOp a .Add b pos) (tOp (rI0 fun i j => .int (i + j)) ta tb) (.v true true) (gOp hAdd ga gb) := ⟨pe_op op_add ha.pe hb.pe, ha.hK, se_op scl_I0 osc_I0 ha.se hb.se⟩
theorem x_sub (ha : PD X K W Δ a ta (.v av fr) ga) (hb : PD X K W Δ b tb (.v av' fr') gb) : PD X K W Δ (.BinOp a .Sub b pos) (tOp (rI0 fun i j => .int (i - j)) ta tb) (.v true true) (gOp hSub ga gb) := ⟨pe_op op_sub ha.pe hb.pe, ha.hK, se_op scl_I0 osc_I0 ha.se hb.se⟩
theorem x_mul (ha : PD X K W Δ a ta (.v av fr) ga) (hb : PD X K W Δ b tb (.v av' fr') gb) : PD X K W Δ (.BinOp a .Mult b pos) (tOp (rI CMul fun i j => .int (i * j)) ta tb) (.v true true) (gOp hMul ga gb) := ⟨pe_op op_mul ha.pe hb.pe, ha.hK, se_op scl_I (osc_I fun _ _ => cMul_ok) ha.se hb.se⟩
theorem x_div (ha : PD X K W Δ a ta (.v av fr) ga) (hb : PD X K W Δ b tb (.v av' fr') gb) : PD X K W Δ (.BinOp a .FloorDiv b pos) (tOp (rI CDivW fun i j => .int (i / j)) ta tb) (.v true true) (gOp hDiv ga gb) := ⟨pe_op op_fdivW ha.pe hb.pe, ha.hK, se_op scl_I (osc_I fun _ _ => cDiv_ok) ha.se hb.se⟩
theorem x_mod (ha : PD X K W Δ a ta (.v av fr) ga) (hb : PD X K W Δ b tb (.v av' fr') gb) : PD X K W Δ (.BinOp a .Mod b pos) (tOp (rI (fun _ j => 0 < j) fun i j => .int (i % j)) ta tb) (.v true true) (gOp hMod ga gb) := ⟨pe_op op_mod ha.pe hb.pe, ha.hK, se_op scl_I (osc_I fun _ _ => cMod_ok) ha.se hb.se⟩
theorem x_pow (ha : PD X K W Δ a ta (.v av fr) ga) (hb : PD X K W Δ b tb (.v av' fr') gb) : PD X K W Δ (.BinOp a .Pow b pos) (tOp (rI CPow fun i j => .int (i ^ j.toNat)) ta tb) (.v true true) (gOp hPow ga gb) := ⟨pe_op op_pow ha.pe hb.pe, ha.hK, se_op scl_I (osc_I fun _ _ => cPow_ok) ha.se hb.se⟩
theorem x_shr (ha : PD X K W Δ a ta (.v av fr) ga) (hb : PD X K W Δ b tb (.v av' fr') gb) : PD X K W Δ (.BinOp a .RShift b pos) (tOp (rI (fun _ j => 0 ≤ j) fun i j => .int (i / 2 ^ j.toNat)) ta tb) (.v true true) (gOp hShr ga gb) := ⟨pe_op op_shr ha.pe hb.pe, ha.hK, se_op scl_I (osc_I fun _ _ => cShr_ok) ha.se hb.se⟩
theorem x_band (ha : PD X K W Δ a ta (.v av fr) ga) (hb : PD X K W Δ b tb (.v av' fr') gb) : PD X K W Δ (.BinOp a .BitAnd b pos) (tOp (rI0 fun i j => .int (Builtin.bitAnd i j)) ta tb) (.v true true) (gOp hBand ga gb) := ⟨pe_op op_and ha.pe hb.pe, ha.hK, se_op scl_I0 osc_I0 ha.se hb.se⟩
theorem x_neg (ha : PD X K W Δ a ta (.v av fr) ga) : PD X K W Δ (.UnaryOp .USub a pos) (tUn (rU fun i => .int (-i)) ta) (.v true true) (gUn (hU fun i => -i) ga) := ⟨pe_un un_neg ha.pe, ha.hK, se_un scl_U usc_U ha.se⟩
theorem x_bits {apos : Pos} (ha : PD X K W Δ a ta (.v av fr) ga) (hbase : attributeBase a "bit_length" X.env (eval a X.env) = eval a X.env := by rfl) (hline : (apos.endLine == pos.line) = true := by rfl) :
    PD X K W Δ (.Call (.Attribute a "bit_length" apos) [] [] pos) (tBits ta) (.v true true) (gUn hBits ga) := ⟨pe_bits ha.pe hbase hline, ha.hK, se_un scl_bits usc_bits ha.se⟩

theorem x_lt (ha : PD X K W Δ a ta (.v av fr) ga) (hb : PD X K W Δ b tb (.v av' fr') gb) : PD X K W Δ (.Compare a [.Lt] [b] pos) (tOp (rI0 fun i j => .bl (decide (i < j))) ta tb) (.v true true) (gOp hLt ga gb) := ⟨pe_cmpR op_lt ha.pe hb.pe (nobehind _ (by decide) (by decide)), ha.hK, se_op scl_B0 osc_B0 ha.se hb.se⟩
theorem x_le (ha : PD X K W Δ a ta (.v av fr) ga) (hb : PD X K W Δ b tb (.v av' fr') gb) : PD X K W Δ (.Compare a [.LtE] [b] pos) (tOp (rI0 fun i j => .bl (decide (i ≤ j))) ta tb) (.v true true) (gOp hLe ga gb) := ⟨pe_cmpR op_le ha.pe hb.pe (nobehind _ (by decide) (by decide)), ha.hK, se_op scl_B0 osc_B0 ha.se hb.se⟩
theorem x_gt (ha : PD X K W Δ a ta (.v av fr) ga) (hb : PD X K W Δ b tb (.v av' fr') gb) : PD X K W Δ (.Compare a [.Gt] [b] pos) (tOp (rI0 fun i j => .bl (decide (j < i))) ta tb) (.v true true) (gOp hGt ga gb) := ⟨pe_cmpR op_gt ha.pe hb.pe (nobehind _ (by decide) (by decide)), ha.hK, se_op scl_B0 osc_B0 ha.se hb.se⟩
theorem x_ge (ha : PD X K W Δ a ta (.v av fr) ga) (hb : PD X K W Δ b tb (.v av' fr') gb) : PD X K W Δ (.Compare a [.GtE] [b] pos) (tOp (rI0 fun i j => .bl (decide (j ≤ i))) ta tb) (.v true true) (gOp hGe ga gb) := ⟨pe_cmpR op_ge ha.pe hb.pe (nobehind _ (by decide) (by decide)), ha.hK, se_op scl_B0 osc_B0 ha.se hb.se⟩
theorem x_eq {n : Nat} (hr : Room n X.A) (ha : PD X K W Δ a ta (.v av fr) ga) (hb : PD X K W Δ b tb (.v av' fr') gb) : PD X K W Δ (.Compare a [.Eq] [b] pos) (tOp (rEqD K) ta tb) (.v true true) (gOp hEq ga gb) :=
  ⟨pe_cmpR (by have q := op_eqD (X := X) (by have := hr.un; omega); rw [ha.hK] at q; exact q) ha.pe hb.pe (nobehind _ (by decide) (by decide)), ha.hK, se_op scl_eq osc_eq ha.se hb.se⟩
theorem x_ne {n : Nat} (hr : Room n X.A) (ha : PD X K W Δ a ta (.v av fr) ga) (hb : PD X K W Δ b tb (.v av' fr') gb) : PD X K W Δ (.Compare a [.NotEq] [b] pos) (tOp (rNeD K) ta tb) (.v true true) (gOp hNe ga gb) :=
  ⟨pe_cmpR (by have q := op_neD (X := X) (by have := hr.un; omega); rw [ha.hK] at q; exact q) ha.pe hb.pe (nobehind _ (by decide) (by decide)), ha.hK, se_op scl_ne osc_ne ha.se hb.se⟩
theorem x_in {n : Nat} (hr : Room n X.A) (ha : PD X K W Δ a ta (.v av fr) ga) (hb : PD X K W Δ b tb (.v av' fr') gb) (hm : behindInMarks .In b = false := by rfl) : PD X K W Δ (.Compare a [.In] [b] pos) (tOp (rInDT K false) ta tb) (.v true true) (gOp hIn ga gb) :=
  ⟨pe_cmpR (by have q := op_inDT (X := X) (by have := hr.un; omega); rw [ha.hK] at q; exact q) ha.pe hb.pe hm, ha.hK, se_op scl_in osc_in ha.se hb.se⟩
theorem x_notIn {n : Nat} (hr : Room n X.A) (ha : PD X K W Δ a ta (.v av fr) ga) (hb : PD X K W Δ b tb (.v av' fr') gb) (hm : behindInMarks .NotIn b = false := by rfl) : PD X K W Δ (.Compare a [.NotIn] [b] pos) (tOp (rInDT K true) ta tb) (.v true true) (gOp hNotIn ga gb) :=
  ⟨pe_cmpR (by have q := op_notInDT (X := X) (by have := hr.un; omega); rw [ha.hK] at q; exact q) ha.pe hb.pe hm, ha.hK, se_op scl_notIn osc_notIn ha.se hb.se⟩
theorem x_isN (ha : PD X K W Δ a ta (.v av fr) ga) (hb : PD X K W Δ b tb (.v av' fr') gb) : PD X K W Δ (.Compare a [.Is] [b] pos) (tOp (fun x y H Q => y = .non ∧ Q (.bl (decide (x = .non))) H) ta tb) (.v true true) (gOp hIs ga gb) := ⟨pe_cmpR op_isN ha.pe hb.pe (nobehind _ (by decide) (by decide)), ha.hK, se_op scl_is osc_is ha.se hb.se⟩
theorem x_notN (ha : PD X K W Δ a ta (.v av fr) ga) (hb : PD X K W Δ b tb (.v av' fr') gb) : PD X K W Δ (.Compare a [.IsNot] [b] pos) (tOp (fun x y H Q => y = .non ∧ Q (.bl (!decide (x = .non))) H) ta tb) (.v true true) (gOp hIsNot ga gb) := ⟨pe_cmpR op_notN ha.pe hb.pe (nobehind _ (by decide) (by decide)), ha.hK, se_op scl_isNot osc_isNot ha.se hb.se⟩

/-! tests -/
theorem c_val (h : PD X K W Δ e te (.v av fr) g) (he : ∀ whole, isTrue e X.env whole = (do let v ← whole; standAt e.pos; holding [v] (truthy v)) := by intro _; rfl) : TD X K W Δ e (tB te) (gTest g) := ⟨pt_val h.pe he, h.hK, st_B h.se⟩
theorem c_not (h : TD X K W Δ a tt gt) : TD X K W Δ (.UnaryOp .Not a pos) (tNot tt) (gNot gt) := ⟨pt_not h.pt, h.hK, st_not h.st⟩
theorem w_and1 (h : TD X K W Δ a tt gt) : WD X K W Δ (.BoolOp .And [a] pos) tt gt := ⟨pw_and1 h.pt, h.hK, h.st⟩
theorem w_or1 (h : TD X K W Δ a tt gt) : WD X K W Δ (.BoolOp .Or [a] pos) tt gt := ⟨pw_or1 h.pt, h.hK, h.st⟩
theorem w_and (h : TD X K W Δ a tt gt) (h2 : WD X K W Δ (.BoolOp .And (b :: es) pos) tu gu) : WD X K W Δ (.BoolOp .And (a :: b :: es) pos) (tAnd tt tu) (gAnd gt gu) := ⟨pw_and h.pt h2.pw, h.hK, st_and h.st h2.st⟩
theorem w_or (h : TD X K W Δ a tt gt) (h2 : WD X K W Δ (.BoolOp .Or (b :: es) pos) tu gu) : WD X K W Δ (.BoolOp .Or (a :: b :: es) pos) (tOr tt tu) (gOr gt gu) := ⟨pw_or h.pt h2.pw, h.hK, st_or h.st h2.st⟩
theorem c_w (h : WD X K W Δ e tt gt) : TD X K W Δ e tt gt := ⟨h.pw.pt, h.hK, h.st⟩
theorem x_ifE (h : TD X K W Δ c tt gt) (ha : PD X K W Δ a ta k ga) (hb : PD X K W Δ b tb k gb) : PD X K W Δ (.IfExp c a b pos) (tIf tt ta tb) k (gIf gt ga gb) := ⟨pe_ifExp h.pt ha.pe hb.pe, h.hK, se_if h.st ha.se hb.se⟩
theorem x_one {op} (h : PD X K W Δ a ta k ga) : PD X K W Δ (.BoolOp op [a] pos) ta k ga := ⟨pe_one h.pe, h.hK, h.se⟩
theorem x_and (ha : PD X K W Δ a ta (.v av fr) ga) (hb : PD X K W Δ (.BoolOp .And (b :: es) pos) tb (.v true true) gb) : PD X K W Δ (.BoolOp .And (a :: b :: es) pos) (tAndV ta tb) (.v true true) (gAndV ga gb) := ⟨pe_and ha.pe hb.pe, ha.hK, se_andV ha.se hb.se⟩
theorem x_or (ha : PD X K W Δ a ta (.v av fr) ga) (hb : PD X K W Δ (.BoolOp .Or (b :: es) pos) tb (.v true true) gb) : PD X K W Δ (.BoolOp .Or (a :: b :: es) pos) (tOrV ta tb) (.v true true) (gOrV ga gb) := ⟨pe_or ha.pe hb.pe, ha.hK, se_orV ha.se hb.se⟩
theorem x_not (ha : PD X K W Δ a ta (.v av fr) ga) : PD X K W Δ (.UnaryOp .Not a pos) (tNotV ta) (.v true true) (gNotV ga) := ⟨pe_not ha.pe, ha.hK, se_notV ha.se⟩

/-! argument lists, displays -/
theorem a_nil (hK : X.K = K := by rfl) : AD X K W Δ [] tNil true true gNil := ⟨pa_nil, hK, sa_nil⟩
theorem a_cons (ha : PD X K W Δ a ta (.v av fr) ga) (hr : AD X K W Δ es tA av' fr' gA) (hs : starEach (a :: es) X.env = (false, eval a X.env) :: starEach es X.env := by rfl) : AD X K W Δ (a :: es) (tCons ta tA) (av && av') (fr && fr') (gCons ga gA) := ⟨pa_cons ha.pe hr.pa hs, ha.hK, sa_cons ha.se hr.sa⟩
theorem AD.wk (h : AD X K W Δ es tA av fr gA) (h1 : av' = true → av = true := by decide) (h2 : fr' = true → fr = true := by decide) : AD X K W Δ es tA av' fr' gA := ⟨h.pa, h.hK, h.sa.wk h1 h2⟩
theorem x_tup {x1} (h : AD X K W Δ es tA av fr gA) : PD X K W Δ (.Tuple es x1 pos) (tTup tA) (.v av fr) (gTup gA) := ⟨pe_tup h.pa, h.hK, se_tup h.sa⟩
theorem x_lst (h : AD X K W Δ es tA true fr gA) : PD X K W Δ (.List es pos) (tLst tA) (.new .l fr) (gLst gA) := ⟨pe_lst h.pa, h.hK, se_lst h.sa⟩
theorem x_lstv (h : AD X K W Δ es tA av fr gA) : PD X K W Δ (.List es pos) (tLst tA) (.v av fr) (gLst gA) := ⟨pe_lst h.pa, h.hK, se_lstv h.sa⟩

/-! calls of built-ins -/
theorem x_len {x : Str} {p : Pos} (hm : X.mg x = none) (h : AD X K W Δ (e :: es) tA av fr gA) (hv : bootBuiltins x = some (.builtin "len") := by decide +kernel) (hg : Gl X x := by rfl) (hn : x ≠ "__name__" := by decide) (hdb : (x == ("__debug__" : Str)) = false := by decide)
    (he : starEach (e :: es) X.env = (false, eval e X.env) :: starEach es X.env := by rfl) (hpl : (backTo pos (starEach es X.env)).any (·.1) = false := by rfl) :
    PD X K W Δ (.Call (.Name x p) (e :: es) [] pos) (tCB (fun xs H Q => ∃ x n, xs = [x] ∧ LenV K x H n ∧ Q (.int n) H) tA) (.v true true) (gCB hLen gA) :=
  ⟨pe_callB (by have q := call_len (X := X); rw [h.hK] at q; exact q) hg hm hv h.pa hn hdb he hpl, h.hK, se_cb scl_len csc_len h.sa⟩
theorem x_min2 {x : Str} {p : Pos} (hm : X.mg x = none) (h : AD X K W Δ (e :: es) tA av fr gA) (hc : X.calm = true := by rfl) (hv : bootBuiltins x = some (.builtin "min") := by decide +kernel) (hg : Gl X x := by rfl) (hn : x ≠ "__name__" := by decide) (hdb : (x == ("__debug__" : Str)) = false := by decide)
    (he : starEach (e :: es) X.env = (false, eval e X.env) :: starEach es X.env := by rfl) (hpl : (backTo pos (starEach es X.env)).any (·.1) = false := by rfl) :
    PD X K W Δ (.Call (.Name x p) (e :: es) [] pos) (tCB (fun xs H Q => ∃ i j, xs = [.int i, .int j] ∧ Q (.int (if j < i then j else i)) H) tA) (.v true true) (gCB hMin2 gA) := ⟨pe_callB (call_min2 hc) hg hm hv h.pa hn hdb he hpl, h.hK, se_cb scl_min2 csc_min2 h.sa⟩
theorem x_max2 {x : Str} {p : Pos} (hm : X.mg x = none) (h : AD X K W Δ (e :: es) tA av fr gA) (hc : X.calm = true := by rfl) (hv : bootBuiltins x = some (.builtin "max") := by decide +kernel) (hg : Gl X x := by rfl) (hn : x ≠ "__name__" := by decide) (hdb : (x == ("__debug__" : Str)) = false := by decide)
    (he : starEach (e :: es) X.env = (false, eval e X.env) :: starEach es X.env := by rfl) (hpl : (backTo pos (starEach es X.env)).any (·.1) = false := by rfl) :
    PD X K W Δ (.Call (.Name x p) (e :: es) [] pos) (tCB (fun xs H Q => ∃ i j, xs = [.int i, .int j] ∧ Q (.int (if j > i then j else i)) H) tA) (.v true true) (gCB hMax2 gA) := ⟨pe_callB (call_max2 hc) hg hm hv h.pa hn hdb he hpl, h.hK, se_cb scl_max2 csc_max2 h.sa⟩
theorem x_min3 {x : Str} {p : Pos} (hm : X.mg x = none) (h : AD X K W Δ (e :: es) tA av fr gA) (hc : X.calm = true := by rfl) (hv : bootBuiltins x = some (.builtin "min") := by decide +kernel) (hg : Gl X x := by rfl) (hn : x ≠ "__name__" := by decide) (hdb : (x == ("__debug__" : Str)) = false := by decide)
    (he : starEach (e :: es) X.env = (false, eval e X.env) :: starEach es X.env := by rfl) (hpl : (backTo pos (starEach es X.env)).any (·.1) = false := by rfl) :
    PD X K W Δ (.Call (.Name x p) (e :: es) [] pos) (tCB rMin3 tA) (.v true true) (gCB hMin3 gA) := ⟨pe_callB (call_min3 hc) hg hm hv h.pa hn hdb he hpl, h.hK, se_cb scl_min3 csc_min3 h.sa⟩
theorem x_int1 {x : Str} {p : Pos} (hm : X.mg x = none) (h : AD X K W Δ (e :: es) tA av fr gA) (hv : bootBuiltins x = some (.type "int") := by decide +kernel) (hg : Gl X x := by rfl) (hn : x ≠ "__name__" := by decide) (hdb : (x == ("__debug__" : Str)) = false := by decide)
    (he : starEach (e :: es) X.env = (false, eval e X.env) :: starEach es X.env := by rfl) (hpl : (backTo pos (starEach es X.env)).any (·.1) = false := by rfl) :
    PD X K W Δ (.Call (.Name x p) (e :: es) [] pos) (tCB (fun xs H Q => (∃ i, xs = [.int i] ∧ Q (.int i) H) ∨ ∃ k, xs = [.bl k] ∧ Q (.int (if k then 1 else 0)) H) tA) (.v true true) (gCB hInt1 gA) := ⟨pe_callTy call_int1 hg hm hv h.pa hn hdb he hpl, h.hK, se_cb scl_int1 csc_int1 h.sa⟩
theorem x_all {x : Str} {p : Pos} (hm : X.mg x = none) (h : AD X K W Δ (e :: es) tA av fr gA) (hc : X.calm = true := by rfl) (hv : bootBuiltins x = some (.builtin "all") := by decide +kernel) (hg : Gl X x := by rfl) (hn : x ≠ "__name__" := by decide) (hdb : (x == ("__debug__" : Str)) = false := by decide)
    (he : starEach (e :: es) X.env = (false, eval e X.env) :: starEach es X.env := by rfl) (hpl : (backTo pos (starEach es X.env)).any (·.1) = false := by rfl) :
    PD X K W Δ (.Call (.Name x p) (e :: es) [] pos) (tCB (rAll K) tA) (.v true true) (gCB hAll gA) := ⟨pe_callB (by have q := cr_all (X := X) hc; rw [h.hK] at q; exact q) hg hm hv h.pa hn hdb he hpl, h.hK, se_cb scl_all csc_all h.sa⟩
theorem x_any {x : Str} {p : Pos} (hm : X.mg x = none) (h : AD X K W Δ (e :: es) tA av fr gA) (hc : X.calm = true := by rfl) (hv : bootBuiltins x = some (.builtin "any") := by decide +kernel) (hg : Gl X x := by rfl) (hn : x ≠ "__name__" := by decide) (hdb : (x == ("__debug__" : Str)) = false := by decide)
    (he : starEach (e :: es) X.env = (false, eval e X.env) :: starEach es X.env := by rfl) (hpl : (backTo pos (starEach es X.env)).any (·.1) = false := by rfl) :
    PD X K W Δ (.Call (.Name x p) (e :: es) [] pos) (tCB (rAny K) tA) (.v true true) (gCB hAny gA) := ⟨pe_callB (by have q := cr_any (X := X) hc; rw [h.hK] at q; exact q) hg hm hv h.pa hn hdb he hpl, h.hK, se_cb scl_any csc_any h.sa⟩
theorem x_sum {x : Str} {p : Pos} (hm : X.mg x = none) (h : AD X K W Δ (e :: es) tA av fr gA) (hc : X.calm = true := by rfl) (hv : bootBuiltins x = some (.builtin "sum") := by decide +kernel) (hg : Gl X x := by rfl) (hn : x ≠ "__name__" := by decide) (hdb : (x == ("__debug__" : Str)) = false := by decide)
    (he : starEach (e :: es) X.env = (false, eval e X.env) :: starEach es X.env := by rfl) (hpl : (backTo pos (starEach es X.env)).any (·.1) = false := by rfl) :
    PD X K W Δ (.Call (.Name x p) (e :: es) [] pos) (tCB (rSum K) tA) (.v true true) (gCB hSum gA) := ⟨pe_callB (by have q := cr_sum (X := X) hc; rw [h.hK] at q; exact q) hg hm hv h.pa hn hdb he hpl, h.hK, se_cb scl_sum csc_sum h.sa⟩
end
end Sim
end T_SimC

section T_SimD
set_option Elab.async false
set_option linter.all false
set_option maxRecDepth 100000
/-! SimD: subscripts, slices, list + list, walks, targets, comprehensions. -/
namespace Sim
open PySem PySem.Spec L2
open PyProof.Rows hiding St

/-! ### lists that are laid anew -/
def cutD (xs : List Dt) (lo hi : Option Int) : List Dt := (xs.drop (HT.sIx xs.length 0 lo)).take (HT.sIx xs.length xs.length hi - HT.sIx xs.length 0 lo)
def hIx : Dt → Dt → O Dt := fun d e => match d, e with
  | .list ds, .int i => match atI ds i with
    | some z => .ok z
    | none => .bad
  | .tuple ds, .int i => match atI ds i with
    | some z => .ok z
    | none => .bad
  | .str z, .int i => if z.length ≤ 100000 then (match atI z.cps.toList i with
    | some c => .ok (.str ⟨#[c]⟩)
    | none => .bad) else .bad
  | _, _ => .bad
def hSl : Dt → Option Int → Option Int → O Dt := fun d lo hi => match d with
  | .list ds => .ok (.list (cutD ds lo hi))
  | _ => .bad
def hSlT : Dt → Option Int → Option Int → O Dt := fun d lo hi => match d with
  | .tuple ds => .ok (.tuple (cutD ds lo hi))
  | _ => .bad
def gSl (h : Dt → Option Int → Option Int → O Dt) (g : Gd) (gl gh : List Dt → O (Option Int)) : Gd := fun ρ => bnd (g ρ) fun d => bnd (gl ρ) fun lo => bnd (gh ρ) fun hi => h d lo hi
def gNoPart : List Dt → O (Option Int) := fun _ => .ok none
def gPart (g : Gd) : List Dt → O (Option Int) := fun ρ => bnd (g ρ) fun d => match d with
  | .int i => .ok (some i)
  | _ => .bad
def hCat : Dt → Dt → O Dt := fun d e => match d, e with
  | .list xs, .list ys => if xs.length + ys.length ≤ 100000 then .ok (.list (xs ++ ys)) else .bad
  | _, _ => .bad
def hRep : Dt → Dt → O Dt := fun d e => match d, e with
  | .list xs, .int k => if -(2 ^ 63) ≤ k ∧ k < 2 ^ 63 ∧ xs.length * k.toNat ≤ 100000 then .ok (.list (List.replicate k.toNat xs).flatten) else .bad
  | _, _ => .bad
def hListOf : Dt → O Dt := fun d => match d with
  | .list xs => .ok (.list xs)
  | .tuple xs => .ok (.list xs)
  | _ => .bad
def hTupOf : Dt → O Dt := fun d => match d with
  | .list xs => .ok (.tuple xs)
  | .tuple xs => .ok (.tuple xs)
  | _ => .bad
def isort (ns : List Int) : List Int := ns.mergeSort fun a b => decide (a ≤ b)
def hSorted : Dt → O Dt := fun d => match d with
  | .list xs => match allI xs with
    | some ns => .ok (.list ((isort ns).map .int))
    | none => .bad
  | _ => .bad
def one (h : Dt → O Dt) : List Dt → O Dt := fun ds => match ds with
  | [d] => h d
  | _ => .bad

section
variable {K : PySem.W.Frag} {W : Wt} {Δ : List Kd} {F : Addr → Prop} {H : Hp}

theorem RpA.ixN {vs : List V} {ds : List Dt} {i : Int} {z : Dt} (r : RpA K F H vs ds) (h : atI ds i = some z) : ∃ v, atI vs i = some v ∧ Rp K F H v z := by
  unfold atI at h ⊢
  rw [r.length]
  cases e : L2.ixN ds.length i with
  | none => rw [e] at h; cases h
  | some j =>
    rw [e] at h
    exact r.get' h
theorem Rp.sqt {v : V} {ds : List Dt} (h : Rp K F H v (.tuple ds)) : ∃ a xs, v = .ref a ∧ SqT K H a xs ∧ RpA K F H xs ds := by
  cases h with
  | tup h r => exact ⟨_, _, rfl, h, r⟩
theorem RpA.cut {vs : List V} {ds : List Dt} {lo hi : Option Int} (r : RpA K F H vs ds) : RpA K F H (cutV vs lo hi) (cutD ds lo hi) := by
  unfold cutV cutD
  rw [r.length]
  exact (r.drop _).take _

/-! ### x[i] -/
theorem se_ix {ta tb : TE} {ga gb : Gd} {av fr av' fr' : Bool} (ha : SE K W Δ ta (.v av fr) ga) (hb : SE K W Δ tb (.v av' fr') gb) : SE K W Δ (tOp (rIx K) ta tb) (.v av fr) (gOp hIx ga gb) := fun f ρ σ H Q R q => by
  refine ha f ρ σ H _ R ?_
  unfold gOp at q
  cases e1 : ga ρ with
  | bad => rw [e1] at q; exact q
  | ex z => rw [e1] at q; exact q
  | ok d =>
    rw [e1, bnd_ok] at q
    intro v H1 s1 x1
    refine hb f ρ σ H1 _ (R.mono s1) ?_
    cases e2 : gb ρ with
    | bad => rw [e2] at q; exact q
    | ex z => rw [e2] at q; exact fun H' s => q H' (s1.trans s)
    | ok d2 =>
      rw [e2, bnd_ok] at q
      intro v2 H2 s2 x2
      unfold hIx at q
      split at q
      · split at q
        · rename_i z hz
          obtain ⟨a, xs, rfl, hs, r⟩ := (x1.same s2).sql
          obtain ⟨w, hw, rw'⟩ := r.ixN hz
          rw [rpInt x2]
          exact .inl ⟨a, xs, _, w, rfl, rfl, hs, hw, q w H2 (s1.trans s2) rw'⟩
        · exact q.elim
      · split at q
        · rename_i z hz
          obtain ⟨a, xs, rfl, hs, r⟩ := (x1.same s2).sqt
          obtain ⟨w, hw, rw'⟩ := r.ixN hz
          rw [rpInt x2]
          exact .inr (.inl ⟨a, xs, _, w, rfl, rfl, hs, hw, q w H2 (s1.trans s2) rw'⟩)
        · exact q.elim
      · split at q
        · rename_i hl
          split at q
          · rename_i c hc
            rw [rpInt x2]
            cases x1
            exact .inr (.inr ⟨_, _, c, rfl, rfl, sz_le hl, hc, q _ H2 (s1.trans s2) (.str _)⟩)
          · exact q.elim
        · exact q.elim
      · exact q.elim
theorem se_ixO {ta tb : TE} {ga gb : Gd} {fr av' fr' : Bool} (ha : SE K W Δ ta (.o fr) ga) (hb : SE K W Δ tb (.v av' fr') gb) : SE K W Δ (tOp (rIx K) ta tb) (.v true fr) (gOp hIx ga gb) := fun f ρ σ H Q R q => by
  refine ha f ρ σ H _ R ?_
  unfold gOp at q
  cases e1 : ga ρ with
  | bad => rw [e1] at q; exact q
  | ex z => rw [e1] at q; exact q
  | ok d =>
    rw [e1, bnd_ok] at q
    intro p H1 vs ds ed s1 hp gp x1
    subst ed
    refine hb f ρ σ H1 _ (R.mono s1) ?_
    cases e2 : gb ρ with
    | bad => rw [e2] at q; exact q
    | ex z => rw [e2] at q; exact fun H' s => q H' (s1.trans s)
    | ok d2 =>
      rw [e2, bnd_ok] at q
      intro v2 H2 s2 x2
      unfold hIx at q
      cases d2 with
      | int i =>
        simp only at q
        cases hz : atI ds i with
        | some z =>
          rw [hz] at q
          obtain ⟨w, hw, rw'⟩ := (x1.same s2).ixN hz
          rw [rpInt x2]
          exact .inl ⟨p, vs, _, w, rfl, rfl, .inl (.inl (s2 _ _ hp)), hw, q w H2 (s1.trans s2) rw'⟩
        | none => rw [hz] at q; exact q.elim
      | _ => exact q.elim

/-! ### slices -/
abbrev TOp := L2.St → Hp → (Option Int → Hp → Prop) → Prop
def SO (K : PySem.W.Frag) (W : Wt) (Δ : List Kd) (to : TOp) (g : List Dt → O (Option Int)) : Prop := ∀ f ρ σ H Q, R K f Δ ρ σ H →
  (match g ρ with | .bad => False | .ex e => ∀ H', Same H H' → W e σ H' | .ok o => ∀ H', Same H H' → Q o H') → to σ H Q
theorem so_none : SO K W Δ tNoPart gNoPart := fun f ρ σ H Q R q => q H (Same.refl H)
theorem so_some {te : TE} {g : Gd} {av fr : Bool} (h : SE K W Δ te (.v av fr) g) : SO K W Δ (tPart te) (gPart g) := fun f ρ σ H Q R q => by
  refine h f ρ σ H _ R ?_
  unfold gPart at q
  cases e1 : g ρ with
  | bad => rw [e1] at q; exact q
  | ex z => rw [e1] at q; exact q
  | ok d =>
    rw [e1, bnd_ok] at q
    intro v H1 s1 x1
    cases d with
    | int i => rw [rpInt x1]; exact ⟨i, rfl, q H1 s1⟩
    | _ => exact q.elim
theorem se_sl {te : TE} {tl th : TOp} {g : Gd} {gl gh : List Dt → O (Option Int)} {fr : Bool} (h : SE K W Δ te (.v true fr) g) (h1 : SO K W Δ tl gl) (h2 : SO K W Δ th gh) : SE K W Δ (tSl (rSlL K) te tl th) (.new .l fr) (gSl hSl g gl gh) := fun f ρ σ H Q R q => by
  refine h f ρ σ H _ R ?_
  unfold gSl at q
  cases e1 : g ρ with
  | bad => rw [e1] at q; exact q
  | ex z => rw [e1] at q; exact q
  | ok d =>
    rw [e1, bnd_ok] at q
    intro v H1 s1 x1
    refine h1 f ρ σ H1 _ (R.mono s1) ?_
    cases e2 : gl ρ with
    | bad => rw [e2] at q; exact q
    | ex z => rw [e2] at q; exact fun H' s => q H' (s1.trans s)
    | ok lo =>
      rw [e2, bnd_ok] at q
      intro H2 s2
      refine h2 f ρ σ H2 _ ((R.mono s1).mono s2) ?_
      cases e3 : gh ρ with
      | bad => rw [e3] at q; exact q
      | ex z => rw [e3] at q; exact fun H' s => q H' ((s1.trans s2).trans s)
      | ok hi =>
        rw [e3, bnd_ok] at q
        intro H3 s3
        cases d with
        | list ds =>
          obtain ⟨a, xs, rfl, hs, r⟩ := (x1.same (s2.trans s3)).sql
          refine ⟨a, xs, rfl, hs, fun p np => ?_⟩
          have s123 := (s1.trans s2).trans s3
          exact q p _ (s123.free np) (s123.trans (same_upd np)) ⟨_, _, rfl, upd_same, (r.mono (same_upd np) fun a y z => ⟨y, fun e => z (e ▸ np)⟩).cut⟩
        | _ => exact q.elim
theorem se_slO {te : TE} {tl th : TOp} {g : Gd} {gl gh : List Dt → O (Option Int)} {fr : Bool} (h : SE K W Δ te (.o fr) g) (h1 : SO K W Δ tl gl) (h2 : SO K W Δ th gh) : SE K W Δ (tSl (rSlL K) te tl th) (.new .l fr) (gSl hSl g gl gh) := fun f ρ σ H Q R q => by
  refine h f ρ σ H _ R ?_
  unfold gSl at q
  cases e1 : g ρ with
  | bad => rw [e1] at q; exact q
  | ex z => rw [e1] at q; exact q
  | ok d =>
    rw [e1, bnd_ok] at q
    intro pp H1 vs ds ed s1 hp gp x1
    subst ed
    refine h1 f ρ σ H1 _ (R.mono s1) ?_
    cases e2 : gl ρ with
    | bad => rw [e2] at q; exact q
    | ex z => rw [e2] at q; exact fun H' s => q H' (s1.trans s)
    | ok lo =>
      rw [e2, bnd_ok] at q
      intro H2 s2
      refine h2 f ρ σ H2 _ ((R.mono s1).mono s2) ?_
      cases e3 : gh ρ with
      | bad => rw [e3] at q; exact q
      | ex z => rw [e3] at q; exact fun H' s => q H' ((s1.trans s2).trans s)
      | ok hi =>
        rw [e3, bnd_ok] at q
        intro H3 s3
        refine ⟨pp, vs, rfl, .inl (.inl (s3 _ _ (s2 _ _ hp))), fun p np => ?_⟩
        have s123 := (s1.trans s2).trans s3
        exact q p _ (s123.free np) (s123.trans (same_upd np)) ⟨_, _, rfl, upd_same, ((x1.same (s2.trans s3)).mono (same_upd np) fun a y z => ⟨y, fun e => z (e ▸ np)⟩).cut⟩
theorem cut_whole {α : Type} {n : Nat} {xs : List α} (hn : xs.length = n) {lo hi : Option Int} (h : HT.sIx n 0 lo = 0 ∧ HT.sIx n n hi = n) : (xs.drop (HT.sIx n 0 lo)).take (HT.sIx n n hi - HT.sIx n 0 lo) = xs := by
  rw [h.1, h.2, List.drop_zero, Nat.sub_zero]
  exact List.take_of_length_le (Nat.le_of_eq hn)
theorem se_slT {te : TE} {tl th : TOp} {g : Gd} {gl gh : List Dt → O (Option Int)} {av fr : Bool} (h : SE K W Δ te (.v av fr) g) (h1 : SO K W Δ tl gl) (h2 : SO K W Δ th gh) : SE K W Δ (tSl (rSlA K) te tl th) (.v av fr) (gSl hSlT g gl gh) := fun f ρ σ H Q R q => by
  refine h f ρ σ H _ R ?_
  unfold gSl at q
  cases e1 : g ρ with
  | bad => rw [e1] at q; exact q
  | ex z => rw [e1] at q; exact q
  | ok d =>
    rw [e1, bnd_ok] at q
    intro v H1 s1 x1
    refine h1 f ρ σ H1 _ (R.mono s1) ?_
    cases e2 : gl ρ with
    | bad => rw [e2] at q; exact q
    | ex z => rw [e2] at q; exact fun H' s => q H' (s1.trans s)
    | ok lo =>
      rw [e2, bnd_ok] at q
      intro H2 s2
      refine h2 f ρ σ H2 _ ((R.mono s1).mono s2) ?_
      cases e3 : gh ρ with
      | bad => rw [e3] at q; exact q
      | ex z => rw [e3] at q; exact fun H' s => q H' ((s1.trans s2).trans s)
      | ok hi =>
        rw [e3, bnd_ok] at q
        intro H3 s3
        cases d with
        | tuple ds =>
          obtain ⟨a, xs, rfl, hs, r⟩ := (x1.same (s2.trans s3)).sqt
          have s123 := (s1.trans s2).trans s3
          refine ⟨a, xs, rfl, hs, fun w => ?_, fun w p np => ?_⟩
          · refine q _ H3 s123 ?_
            have e : cutD ds lo hi = ds := by
              unfold cutD
              rw [← r.length]
              exact cut_whole (by rw [r.length]) w
            rw [e]
            exact .tup hs r
          · exact q _ _ (s123.trans (same_upd np)) (.tup (.inl (.inl upd_same)) (r.same (same_upd np)).cut)
        | _ => exact q.elim

/-! ### list + list, list * int, list(x), tuple(x), sorted -/
def rCatS (K : PySem.W.Frag) : R2 := fun x y H Q => ∃ l b xs zs, x = .ref l ∧ y = .ref b ∧ SqL K H l xs ∧ SqL K H b zs ∧ xs.length + zs.length ≤ sizeLine ∧ ∀ p, H p = none → Q (.ref p) (upd H p (.lst (xs ++ zs)))
theorem op_catS {X : Cx} : OpR X (binaryOp .Add) (rCatS X.K) := by
  intro pins s σ H x y v u Q I rx ry h
  obtain ⟨l, b, xs, zs, rfl, rfl, hH, hB, hz, q⟩ := h
  cases rx
  cases ry
  obtain ⟨its, r, ⟨⟨cls, dd, data, sl⟩, n, ho, hc, hd, hdt⟩, hl⟩ := I.list hH
  obtain ⟨its2, r2, ⟨⟨cls2, dd2, data2, sl2⟩, n2, ho2, hc2, hd2, hdt2⟩, hl2⟩ := I.list hB
  simp only at hc hdt hc2 hdt2
  subst hc hdt hc2 hdt2
  have ea : its.toArray ++ its2.toArray = (its ++ its2).toArray := by simp
  have e1 := r.length
  have e2 := r2.length
  refine concat_meets ⟨_, ho, rfl⟩ ⟨_, ho2, rfl⟩ noFill_list_add seq_list_add PySem.F.slot_list_add PySem.F.entry_list_add (PySem.F.args_list_add_2 _ _) (PyProof.Rows.list_addW l b its.toArray its2.toArray n n2 dd dd2 sl sl2 (by rw [List.size_toArray, List.size_toArray]; omega)) ⟨ho, ho2, ?_⟩
  rw [ea]
  exact ⟨.ref _, _, I.lnew (t' := s.toks) (r.append r2) (by rw [List.length_append]; omega), rfl, q _ I.fresh⟩
theorem se_cat {ta tb : TE} {ga gb : Gd} {fr fr' : Bool} (ha : SE K W Δ ta (.v true fr) ga) (hb : SE K W Δ tb (.v true fr') gb) : SE K W Δ (tOp (rCatS K) ta tb) (.new .l (fr && fr')) (gOp hCat ga gb) := fun f ρ σ H Q R q => by
  refine ha f ρ σ H _ R ?_
  unfold gOp at q
  cases e1 : ga ρ with
  | bad => rw [e1] at q; exact q
  | ex z => rw [e1] at q; exact q
  | ok d =>
    rw [e1, bnd_ok] at q
    intro v H1 s1 x1
    refine hb f ρ σ H1 _ (R.mono s1) ?_
    cases e2 : gb ρ with
    | bad => rw [e2] at q; exact q
    | ex z => rw [e2] at q; exact fun H' s => q H' (s1.trans s)
    | ok d2 =>
      rw [e2, bnd_ok] at q
      intro v2 H2 s2 x2
      unfold hCat at q
      split at q
      · split at q
        · rename_i hz
          obtain ⟨a, xs, rfl, hs, r⟩ := (x1.same s2).sql
          obtain ⟨b, ys, rfl, hs2, r2⟩ := x2.sql
          refine ⟨a, b, xs, ys, rfl, rfl, hs, hs2, sz_le (by rw [r.length, r2.length]; exact hz), fun p np => ?_⟩
          have s12 := s1.trans s2
          refine q p _ (s12.free np) (s12.trans (same_upd np)) ⟨_, _, rfl, upd_same, ?_⟩
          exact (r.mono (same_upd np) fun a y z => ⟨y.weak id (fun h => (Bool.and_eq_true_iff.mp h).1), fun e => z (e ▸ np)⟩).append
            (r2.mono (same_upd np) fun a y z => ⟨y.weak id (fun h => (Bool.and_eq_true_iff.mp h).2), fun e => z (e ▸ np)⟩)
        · exact q.elim
      · exact q.elim
theorem se_catO {ta tb : TE} {ga gb : Gd} {fr fr' : Bool} (ha : SE K W Δ ta (.o fr) ga) (hb : SE K W Δ tb (.v true fr') gb) : SE K W Δ (tOp (rCatS K) ta tb) (.new .l (fr && fr')) (gOp hCat ga gb) := fun f ρ σ H Q R q => by
  refine ha f ρ σ H _ R ?_
  unfold gOp at q
  cases e1 : ga ρ with
  | bad => rw [e1] at q; exact q
  | ex z => rw [e1] at q; exact q
  | ok d =>
    rw [e1, bnd_ok] at q
    intro pp H1 vs ds ed s1 hp gp x1
    subst ed
    refine hb f ρ σ H1 _ (R.mono s1) ?_
    cases e2 : gb ρ with
    | bad => rw [e2] at q; exact q
    | ex z => rw [e2] at q; exact fun H' s => q H' (s1.trans s)
    | ok d2 =>
      rw [e2, bnd_ok] at q
      intro v2 H2 s2 x2
      cases d2 with
      | list es =>
        unfold hCat at q
        simp only at q
        by_cases hz : ds.length + es.length ≤ 100000
        · rw [if_pos hz] at q
          obtain ⟨b, ys, rfl, hs2, r2⟩ := x2.sql
          have r := x1.same s2
          refine ⟨pp, b, vs, ys, rfl, rfl, .inl (.inl (s2 _ _ hp)), hs2, sz_le (by rw [r.length, r2.length]; exact hz), fun p np => ?_⟩
          have s12 := s1.trans s2
          refine q p _ (s12.free np) (s12.trans (same_upd np)) ⟨_, _, rfl, upd_same, ?_⟩
          exact (r.mono (same_upd np) fun a y z => ⟨y.weak id (fun h => (Bool.and_eq_true_iff.mp h).1), fun e => z (e ▸ np)⟩).append
            (r2.mono (same_upd np) fun a y z => ⟨y.weak id (fun h => (Bool.and_eq_true_iff.mp h).2), fun e => z (e ▸ np)⟩)
        · rw [if_neg hz] at q
          exact q.elim
      | _ => exact q.elim
theorem se_rep {ta tb : TE} {ga gb : Gd} {fr av' fr' : Bool} (ha : SE K W Δ ta (.new .l fr) ga) (hb : SE K W Δ tb (.v av' fr') gb) : SE K W Δ (tOp rRep ta tb) (.new .l fr) (gOp hRep ga gb) := fun f ρ σ H Q R q => by
  refine ha f ρ σ H _ R ?_
  unfold gOp at q
  cases e1 : ga ρ with
  | bad => rw [e1] at q; exact q
  | ex z => rw [e1] at q; exact q
  | ok d =>
    rw [e1, bnd_ok] at q
    intro pp H1 npp s1 x1
    obtain ⟨vs, ds, ed, hp, x1⟩ := x1
    subst ed
    refine hb f ρ σ H1 _ (R.mono s1) ?_
    cases e2 : gb ρ with
    | bad => rw [e2] at q; exact q
    | ex z => rw [e2] at q; exact fun H' s => q H' (s1.trans s)
    | ok d2 =>
      rw [e2, bnd_ok] at q
      intro v2 H2 s2 x2
      cases d2 with
      | int k =>
        unfold hRep at q
        simp only at q
        by_cases hz : -(2 ^ 63) ≤ k ∧ k < 2 ^ 63 ∧ ds.length * k.toNat ≤ 100000
        · rw [if_pos hz] at q
          have r := x1.same s2
          rw [rpInt x2]
          refine ⟨pp, k, vs, rfl, rfl, s2 _ _ hp, hz.1, hz.2.1, sz_le (by rw [r.length]; exact hz.2.2), fun p np => ?_⟩
          have s12 := s1.trans s2
          exact q p _ (s12.free np) (s12.trans (same_upd np)) ⟨_, _, rfl, upd_same, (r.mono (same_upd np) fun a y z => ⟨y.1, fun e => z (e ▸ np)⟩).flat _⟩
        · rw [if_neg hz] at q
          exact q.elim
      | _ => exact q.elim
theorem one_eq {h : Dt → O Dt} {ds : List Dt} : (∃ d, ds = [d] ∧ one h ds = h d) ∨ one h ds = .bad := by
  match ds with
  | [] => exact .inr rfl
  | [d] => exact .inl ⟨d, rfl, rfl⟩
  | _ :: _ :: _ => exact .inr rfl
/-- a new list of what one argument holds -/
def rListOf (K : PySem.W.Frag) : List V → Hp → VK → Prop := fun xs H Q => ∃ p ys, xs = [.ref p] ∧ (SqL K H p ys ∨ SqT K H p ys) ∧ ∀ l, H l = none → Q (.ref l) (upd H l (.lst ys))
theorem se_listOf {tA : TA} {gA : List Dt → O (List Dt)} {fr : Bool} (ha : SA K W Δ tA true fr gA) : SE K W Δ (tCB (rListOf K) tA) (.new .l fr) (gCB (one hListOf) gA) := fun f ρ σ H Q R q => by
  refine ha f ρ σ H _ R ?_
  unfold gCB at q
  cases e1 : gA ρ with
  | bad => rw [e1] at q; exact q
  | ex z => rw [e1] at q; exact q
  | ok ds =>
    rw [e1, bnd_ok] at q
    intro vs H1 s1 x1
    rcases one_eq (h := hListOf) (ds := ds) with ⟨d, rfl, e⟩ | e
    · rw [e] at q
      cases x1 with
      | cons x1 xr =>
        cases xr
        cases d with
        | list es =>
          obtain ⟨a, xs, rfl, hs, r⟩ := x1.sql
          exact ⟨a, xs, rfl, .inl hs, fun l nl => q l _ (s1.free nl) (s1.trans (same_upd nl)) ⟨_, _, rfl, upd_same, r.mono (same_upd nl) fun a y z => ⟨y, fun e => z (e ▸ nl)⟩⟩⟩
        | tuple es =>
          obtain ⟨a, xs, rfl, hs, r⟩ := x1.sqt
          exact ⟨a, xs, rfl, .inr hs, fun l nl => q l _ (s1.free nl) (s1.trans (same_upd nl)) ⟨_, _, rfl, upd_same, r.mono (same_upd nl) fun a y z => ⟨y, fun e => z (e ▸ nl)⟩⟩⟩
        | _ => exact q.elim
    · rw [e] at q
      exact q.elim
/-- list(own) -/
theorem se_listOwn {te : TE} {g : Gd} {fr : Bool} (ha : SE K W Δ te (.o fr) g) : SE K W Δ (tCB (rListOf K) (tCons te tNil)) (.new .l fr) (gCB (one hListOf) (gCons g gNil)) := fun f ρ σ H Q R q => by
  refine ha f ρ σ H _ R ?_
  unfold gCB gCons gNil at q
  cases e1 : g ρ with
  | bad => rw [e1] at q; exact q
  | ex z => rw [e1] at q; exact q
  | ok d =>
    rw [e1, bnd_ok, bnd_ok, bnd_ok] at q
    intro p H1 vs ds ed s1 hp gp x1
    subst ed
    exact ⟨p, vs, rfl, .inl (.inl (.inl hp)), fun l nl => q l _ (s1.free nl) (s1.trans (same_upd nl)) ⟨_, _, rfl, upd_same, x1.mono (same_upd nl) fun a y z => ⟨y, fun e => z (e ▸ nl)⟩⟩⟩
theorem se_tupOf {tA : TA} {gA : List Dt → O (List Dt)} {av fr : Bool} (ha : SA K W Δ tA av fr gA) : SE K W Δ (tCB (fun xs H Q => ∃ p ys, xs = [.ref p] ∧ ((SqL K H p ys ∧ ∀ l, H l = none → Q (.ref l) (upd H l (.tup ys))) ∨ (SqT K H p ys ∧ Q (.ref p) H))) tA) (.v av fr) (gCB (one hTupOf) gA) := fun f ρ σ H Q R q => by
  refine ha f ρ σ H _ R ?_
  unfold gCB at q
  cases e1 : gA ρ with
  | bad => rw [e1] at q; exact q
  | ex z => rw [e1] at q; exact q
  | ok ds =>
    rw [e1, bnd_ok] at q
    intro vs H1 s1 x1
    rcases one_eq (h := hTupOf) (ds := ds) with ⟨d, rfl, e⟩ | e
    · rw [e] at q
      cases x1 with
      | cons x1 xr =>
        cases xr
        cases d with
        | list es =>
          obtain ⟨a, xs, rfl, hs, r⟩ := x1.sql
          exact ⟨a, xs, rfl, .inl ⟨hs, fun l nl => q _ _ (s1.trans (same_upd nl)) (.tup (.inl (.inl upd_same)) (r.same (same_upd nl)))⟩⟩
        | tuple es =>
          obtain ⟨a, xs, rfl, hs, r⟩ := x1.sqt
          exact ⟨a, xs, rfl, .inr ⟨hs, q _ _ s1 (.tup hs r)⟩⟩
        | _ => exact q.elim
    · rw [e] at q
      exact q.elim
theorem isort_perm (ns : List Int) : (isort ns).Perm ns := List.mergeSort_perm _ _
theorem isort_sorted (ns : List Int) : (isort ns).Pairwise (· ≤ ·) := by
  have h := List.pairwise_mergeSort (le := fun (a b : Int) => decide (a ≤ b)) (fun a b c h1 h2 => by
    rw [decide_eq_true_eq] at *; omega) (fun a b => by
    rw [Bool.or_eq_true, decide_eq_true_eq, decide_eq_true_eq]; omega) ns
  exact h.imp fun h => of_decide_eq_true h
theorem sorted_unique : ∀ {a b : List Int}, a.Perm b → a.Pairwise (· ≤ ·) → b.Pairwise (· ≤ ·) → a = b
  | [], b, p, _, _ => (List.Perm.nil_eq p)
  | x :: a, [], p, _, _ => absurd p.length_eq (by simp)
  | x :: a, y :: b, p, ha, hb => by
    have h1 : y ≤ x := by
      have : x ∈ y :: b := p.subset List.mem_cons_self
      rcases List.mem_cons.mp this with e | h
      · omega
      · exact (List.pairwise_cons.mp hb).1 x h
    have h2 : x ≤ y := by
      have : y ∈ x :: a := p.symm.subset List.mem_cons_self
      rcases List.mem_cons.mp this with e | h
      · omega
      · exact (List.pairwise_cons.mp ha).1 y h
    have e : x = y := by omega
    subst e
    rw [sorted_unique (List.Perm.cons_inv p) (List.pairwise_cons.mp ha).2 (List.pairwise_cons.mp hb).2]
theorem rpA_ints {F : Addr → Prop} {H : Hp} : ∀ ns : List Int, RpA K F H (ns.map V.int) (ns.map PyData.int)
  | [] => .nil
  | n :: ns => .cons (.int n) (rpA_ints ns)
theorem se_sorted {tA : TA} {gA : List Dt → O (List Dt)} {av fr : Bool} (ha : SA K W Δ tA av fr gA) : SE K W Δ (tCB (rSortedI K) tA) (.new .l true) (gCB (one hSorted) gA) := fun f ρ σ H Q R q => by
  refine ha f ρ σ H _ R ?_
  unfold gCB at q
  cases e1 : gA ρ with
  | bad => rw [e1] at q; exact q
  | ex z => rw [e1] at q; exact q
  | ok ds =>
    rw [e1, bnd_ok] at q
    intro vs H1 s1 x1
    rcases one_eq (h := hSorted) (ds := ds) with ⟨d, rfl, e⟩ | e
    · rw [e] at q
      cases x1 with
      | cons x1 xr =>
        cases xr
        cases d with
        | list es =>
          unfold hSorted at q
          simp only at q
          cases ea : allI es with
          | none => rw [ea] at q; exact q.elim
          | some ns =>
            rw [ea] at q
            obtain ⟨a, xs, rfl, hs, r⟩ := x1.sql
            rw [rp_ints r ea] at hs
            refine ⟨a, ns, rfl, hs, fun ns' l p1 p2 nl => ?_⟩
            have e2 : ns' = isort ns := sorted_unique (p1.trans (isort_perm ns).symm) p2 (isort_sorted ns)
            subst e2
            exact q l _ (s1.free nl) (s1.trans (same_upd nl)) ⟨_, _, rfl, upd_same, rpA_ints _⟩
        | _ => exact q.elim
    · rw [e] at q
      exact q.elim
end

/-! ### what is walked -/
def Sc (K : PySem.W.Frag) (J : It) (pf : Option (Addr × HO)) (vs : List V) (es ds : List Dt) : Prop :=
  Walk J ds.length (fun H => (∀ q, pf = some q → H q.1 = some q.2) ∧ ∃ F, RpA K F H vs es) (fun i H x H' => Same H H' ∧ ∀ F, RpA K F H vs es → ∃ e, ds[i]? = some e ∧ Rp K F H' x e)
def SI (K : PySem.W.Frag) (W : Wt) (Δ : List Kd) (wi : TI) (b fr : Bool) (g : List Dt → O (List Dt)) : Prop := ∀ f ρ σ H Rk, R K f Δ ρ σ H →
  (match g ρ with
    | .bad => False
    | .ex e => ∀ H', Same H H' → W e σ H'
    | .ok ds => ∀ J H' pf vs es, Same H H' → (b = false → pf = none) → (∀ q, pf = some q → H' q.1 = some q.2) → RpA K (FM f Δ σ true fr) H' vs es → Sc K J pf vs es ds → Rk J H') → wi σ H Rk
structure ID (X : Cx) (K : PySem.W.Frag) (W : Wt) (Δ : List Kd) (tg iter : Expr) (wi : TI) (b fr : Bool) (g : List Dt → O (List Dt)) : Prop where
  pi : PI X tg iter wi
  hK : X.K = K
  si : SI K W Δ wi b fr g

def gSeq (g : Gd) : List Dt → O (List Dt) := fun ρ => bnd (g ρ) fun d => match d with
  | .list ds => .ok ds
  | .tuple ds => .ok ds
  | _ => .bad
def rangeD (lo hi : Int) : List Dt := (List.range (hi - lo).toNat).map fun (i : Nat) => .int (lo + (i : Int))
def rng1 : List Dt → Option (Int × Int)
  | [.int j] => if -(2 ^ 62) ≤ j ∧ j < 2 ^ 62 then some (0, j) else none
  | _ => none
def rng2 : List Dt → Option (Int × Int)
  | [.int i, .int j] => if -(2 ^ 62) ≤ i ∧ i < 2 ^ 62 ∧ -(2 ^ 62) ≤ j ∧ j < 2 ^ 62 then some (i, j) else none
  | _ => none
def gRng1 (g : List Dt → O (List Dt)) : List Dt → O (List Dt) := fun ρ => bnd (g ρ) fun ds => match rng1 ds with
  | some p => .ok (rangeD p.1 p.2)
  | none => .bad
def gRng2 (g : List Dt → O (List Dt)) : List Dt → O (List Dt) := fun ρ => bnd (g ρ) fun ds => match rng2 ds with
  | some p => .ok (rangeD p.1 p.2)
  | none => .bad

def iSeq (K : PySem.W.Frag) (tl : TE) : TI := fun σ H R => tl σ H fun x H1 => ∃ a, x = .ref a ∧ (((∃ xs, SqL K H1 a xs) ∧ R (Itl K a) H1) ∨ ((∃ xs, SqT K H1 a xs) ∧ R (Itt K a) H1))
theorem pi_seq {X : Cx} {tg l : Expr} {tl : TE} (hl : PE X l tl) : PI X tg l (iSeq X.K tl) := by
  refine ⟨fun pins s σ H R I h => ?_⟩
  refine thn (hl.run pins s σ H _ I h) fun v s1 ⟨x, H1, I1, r1, q1⟩ => ?_
  obtain ⟨a, e, q⟩ := q1
  subst e
  cases r1
  rcases q with ⟨⟨xs, hq⟩, q⟩ | ⟨⟨xs, hq⟩, q⟩
  · obtain ⟨its, rv, p, hz⟩ := I1.list hq
    refine wpAny_pyIter_list p.isList ?_
    refine ⟨s1.heap.objs.size, [s1.heap.objs.size], _, _, H1, rfl, I1.kept (t' := s1.toks) fun b o e => Heap.get?_push_of_some _ e, turn_list a _, ⟨_, Heap.get?_push_size _ rfl, rfl, rfl⟩, fun b hb => ?_, q⟩
    have e : b = s1.heap.objs.size := by simpa using hb
    subst e
    exact I1.fpOk (Nat.le_refl _) (I1.hok.fresh (Nat.le_refl _))
  · obtain ⟨its, rv, p, hz⟩ := I1.tuple hq
    refine wpAny_pyIter_tuple (show s1.heap.IsTuple a its.toArray from p) ?_
    refine ⟨s1.heap.objs.size, [s1.heap.objs.size], _, _, H1, rfl, I1.kept (t' := s1.toks) fun b o e => Heap.get?_push_of_some _ e, turn_tuple a _, ⟨_, Heap.get?_push_size _ rfl, rfl, rfl⟩, fun b hb => ?_, q⟩
    have e : b = s1.heap.objs.size := by simpa using hb
    subst e
    exact I1.fpOk (Nat.le_refl _) (I1.hok.fresh (Nat.le_refl _))

section
variable {K : PySem.W.Frag} {W : Wt} {Δ : List Kd}
theorem sc_list {a : Addr} {ds : List Dt} : Sc K (Itl K a) none [.ref a] [.list ds] ds where
  goes := fun i H hi ⟨_, F, r⟩ => by
    cases r with
    | cons h _ =>
      obtain ⟨b, xs, e, hs, r⟩ := h.sql
      cases e
      have hx : i < xs.length := by rw [r.length]; exact hi
      exact ⟨xs, xs[i], hs, List.getElem?_eq_getElem hx⟩
  stops := fun H ⟨_, F, r⟩ => by
    cases r with
    | cons h _ =>
      obtain ⟨b, xs, e, hs, r⟩ := h.sql
      cases e
      exact ⟨xs, hs, Nat.le_of_eq r.length⟩
  yields := fun i H x H' hi _ y => by
    obtain ⟨e, y⟩ := y
    subst e
    refine ⟨Same.refl _, fun F r => ?_⟩
    cases r with
    | cons h _ =>
      obtain ⟨b, xs, e, hs, r⟩ := h.sql
      cases e
      exact r.get (y xs hs)
theorem sc_tup {a : Addr} {ds : List Dt} : Sc K (Itt K a) none [.ref a] [.tuple ds] ds where
  goes := fun i H hi ⟨_, F, r⟩ => by
    cases r with
    | cons h _ =>
      obtain ⟨b, xs, e, hs, r⟩ := h.sqt
      cases e
      have hx : i < xs.length := by rw [r.length]; exact hi
      exact ⟨xs, xs[i], hs, List.getElem?_eq_getElem hx⟩
  stops := fun H ⟨_, F, r⟩ => by
    cases r with
    | cons h _ =>
      obtain ⟨b, xs, e, hs, r⟩ := h.sqt
      cases e
      exact ⟨xs, hs, Nat.le_of_eq r.length⟩
  yields := fun i H x H' hi _ y => by
    obtain ⟨e, y⟩ := y
    subst e
    refine ⟨Same.refl _, fun F r => ?_⟩
    cases r with
    | cons h _ =>
      obtain ⟨b, xs, e, hs, r⟩ := h.sqt
      cases e
      exact r.get (y xs hs)
theorem sc_own {a : Addr} {vs : List V} {ds : List Dt} (hl : vs.length = ds.length) : Sc K (Itl K a) (some (a, .lst vs)) vs ds ds where
  goes := fun i H hi ⟨h, F, r⟩ => by
    have hx : i < vs.length := by rw [r.length]; exact hi
    exact ⟨vs, vs[i], .inl (.inl (h _ rfl)), List.getElem?_eq_getElem hx⟩
  stops := fun H ⟨h, F, r⟩ => ⟨vs, .inl (.inl (h _ rfl)), Nat.le_of_eq hl⟩
  yields := fun i H x H' hi ⟨h, _⟩ y => by
    obtain ⟨e, y⟩ := y
    subst e
    exact ⟨Same.refl _, fun F r => r.get (y vs (.inl (.inl (h _ rfl))))⟩
theorem rangeD_len (lo hi : Int) : (rangeD lo hi).length = (hi - lo).toNat := by unfold rangeD; simp
theorem sc_range {lo hi : Int} : Sc K (Itr lo (hi - lo).toNat) none [] [] (rangeD lo hi) where
  goes := fun i H hi' _ => by rw [rangeD_len] at hi'; exact hi'
  stops := fun H _ => by rw [rangeD_len]; exact Nat.le_refl _
  yields := fun i H x H' hi' _ y => by
    obtain ⟨e, y⟩ := y
    subst e y
    refine ⟨Same.refl _, fun F r => ⟨_, ?_, .int _⟩⟩
    rw [rangeD_len] at hi'
    unfold rangeD
    rw [List.getElem?_map, List.getElem?_range hi']
    rfl
theorem si_seq {te : TE} {g : Gd} {fr : Bool} (h : SE K W Δ te (.v true fr) g) : SI K W Δ (iSeq K te) false fr (gSeq g) := fun f ρ σ H Rk R q => by
  refine h f ρ σ H _ R ?_
  unfold gSeq at q
  cases e1 : g ρ with
  | bad => rw [e1] at q; exact q
  | ex z => rw [e1] at q; exact q
  | ok d =>
    rw [e1, bnd_ok] at q
    intro v H1 s1 x1
    cases d with
    | list ds =>
      obtain ⟨a, xs, rfl, hs, r⟩ := x1.sql
      exact ⟨a, rfl, .inl ⟨⟨xs, hs⟩, q _ H1 none [.ref a] [.list ds] s1 (fun _ => rfl) (fun _ e => nomatch e) (.cons x1 .nil) sc_list⟩⟩
    | tuple ds =>
      obtain ⟨a, xs, rfl, hs, r⟩ := x1.sqt
      exact ⟨a, rfl, .inr ⟨⟨xs, hs⟩, q _ H1 none [.ref a] [.tuple ds] s1 (fun _ => rfl) (fun _ e => nomatch e) (.cons x1 .nil) sc_tup⟩⟩
    | _ => exact q.elim
theorem si_own {te : TE} {g : Gd} {fr : Bool} (h : SE K W Δ te (.o fr) g) : SI K W Δ (iSeq K te) true fr (gSeq g) := fun f ρ σ H Rk R q => by
  refine h f ρ σ H _ R ?_
  unfold gSeq at q
  cases e1 : g ρ with
  | bad => rw [e1] at q; exact q
  | ex z => rw [e1] at q; exact q
  | ok d =>
    rw [e1, bnd_ok] at q
    intro p H1 vs ds ed s1 hp gp x1
    subst ed
    exact ⟨p, rfl, .inl ⟨⟨vs, .inl (.inl hp)⟩, q _ H1 (some (p, .lst vs)) vs ds s1 (fun e => nomatch e) (fun _ e => by cases e; exact hp) x1 (sc_own x1.length)⟩⟩
theorem si_rng1 {tA : TA} {gA : List Dt → O (List Dt)} {av fr : Bool} (h : SA K W Δ tA av fr gA) : SI K W Δ (iRng1 tA) false true (gRng1 gA) := fun f ρ σ H Rk R q => by
  refine h f ρ σ H _ R ?_
  unfold gRng1 at q
  cases e1 : gA ρ with
  | bad => rw [e1] at q; exact q
  | ex z => rw [e1] at q; exact q
  | ok ds =>
    rw [e1, bnd_ok] at q
    intro vs H1 s1 x1
    cases er : rng1 ds with
    | none => rw [er] at q; exact q.elim
    | some p =>
      rw [er] at q
      unfold rng1 at er
      split at er
      · split at er
        · rename_i j c
          cases er
          cases x1 with
          | cons x1 xr =>
            cases xr
            rw [rpInt x1]
            refine ⟨j, rfl, c.1, c.2, ?_⟩
            have w := q (Itr 0 (j - 0).toNat) H1 none [] [] s1 (fun _ => rfl) (fun _ e => nomatch e) .nil sc_range
            rw [Int.sub_zero] at w
            exact w
        · cases er
      · cases er

theorem si_rng2 {tA : TA} {gA : List Dt → O (List Dt)} {av fr : Bool} (h : SA K W Δ tA av fr gA) : SI K W Δ (iRng2 tA) false true (gRng2 gA) := fun f ρ σ H Rk R q => by
  refine h f ρ σ H _ R ?_
  unfold gRng2 at q
  cases e1 : gA ρ with
  | bad => rw [e1] at q; exact q
  | ex z => rw [e1] at q; exact q
  | ok ds =>
    rw [e1, bnd_ok] at q
    intro vs H1 s1 x1
    cases er : rng2 ds with
    | none => rw [er] at q; exact q.elim
    | some p =>
      rw [er] at q
      unfold rng2 at er
      split at er
      · split at er
        · rename_i i j c
          cases er
          cases x1 with
          | cons x1 xr =>
            cases xr with
            | cons x2 xr =>
              cases xr
              rw [rpInt x1, rpInt x2]
              exact ⟨i, j, rfl, c, q (Itr i (j - i).toNat) H1 none [] [] s1 (fun _ => rfl) (fun _ e => nomatch e) .nil sc_range⟩
        · cases er
      · cases er

end
end Sim
end T_SimD

section T_SimE
set_option Elab.async false
set_option linter.all false
set_option maxRecDepth 100000
/-! SimE: targets, comprehensions, calls. -/
namespace Sim
open PySem PySem.Spec L2
open PyProof.Rows hiding St

/-! ### weaker kinds -/
def bLe (a b : Bool) : Bool := !b || a
def kLe : Kd → Kd → Bool
  | _, .no => true
  | .im a, .im b => bLe a b
  | .own .l a, .im b => bLe a b
  | .own .l a, .own .l b => bLe a b
  | .own .dk a, .own .dk b => bLe a b
  | .own .dt a, .own .dt b => bLe a b
  | .own .la a, .own .la b => bLe a b
  | .own .ka a, .own .ka b => bLe a b
  | _, _ => false
def leA : List Kd → List Kd → Bool
  | [], [] => true
  | k :: ks, l :: ls => kLe k l && leA ks ls
  | _, _ => false
theorem bLe_imp {a b : Bool} (h : bLe a b = true) : b = true → a = true := fun e => by subst e; cases a; cases h; rfl
theorem leA_len : ∀ {Δ Δ' : List Kd}, leA Δ Δ' = true → Δ.length = Δ'.length
  | [], [], _ => rfl
  | [], _ :: _, h => by cases h
  | _ :: _, [], h => by cases h
  | k :: ks, l :: ls, h => by
    unfold leA at h
    rw [Bool.and_eq_true] at h
    rw [List.length_cons, List.length_cons, leA_len h.2]
theorem leA_get : ∀ {Δ Δ' : List Kd}, leA Δ Δ' = true → ∀ {i : Nat} {k' : Kd}, Δ'[i]? = some k' → ∃ k, Δ[i]? = some k ∧ kLe k k' = true
  | [], [], _, i, k', h => by simp at h
  | [], _ :: _, h, _, _, _ => by cases h
  | _ :: _, [], h, _, _, _ => by cases h
  | k :: ks, l :: ls, h, 0, k', e => by
    unfold leA at h
    rw [Bool.and_eq_true] at h
    simp at e; subst e
    exact ⟨k, rfl, h.1⟩
  | k :: ks, l :: ls, h, i + 1, k', e => by
    unfold leA at h
    rw [Bool.and_eq_true] at h
    obtain ⟨q, h1, h2⟩ := leA_get h.2 (i := i) (k' := k') (by simpa using e)
    exact ⟨q, by simpa using h1, h2⟩
theorem kLe_own {k : Kd} {c : Ct} {fr : Bool} (h : kLe k (.own c fr) = true) : ∃ fr', k = .own c fr' ∧ (fr = true → fr' = true) := by
  cases k with
  | no => cases c <;> cases h
  | im a => cases c <;> cases h
  | own c' a => cases c' <;> cases c <;> first | (cases h; done) | exact ⟨a, rfl, bLe_imp h⟩
theorem kLe_im {k : Kd} {fr : Bool} (h : kLe k (.im fr) = true) : (∃ fr', k = .im fr' ∧ (fr = true → fr' = true)) ∨ ∃ fr', k = .own .l fr' ∧ (fr = true → fr' = true) := by
  cases k with
  | no => cases h
  | im a => exact .inl ⟨a, rfl, bLe_imp h⟩
  | own c' a => cases c' <;> first | (cases h; done) | exact .inr ⟨a, rfl, bLe_imp h⟩

section
variable {K : PySem.W.Frag} {f : Fm} {Δ Δ' : List Kd} {ρ : List Dt} {σ σ' : L2.St} {H : Hp}
theorem R.weak (r : R K f Δ ρ σ H) (h : leA Δ Δ' = true) : R K f Δ' ρ σ H := by
  have ow' : ∀ a, Ow Δ' σ a → Ow Δ σ a := fun a ⟨i, c, fr, h1, h2⟩ => by
    obtain ⟨k, e, hk⟩ := leA_get h h1
    obtain ⟨fr', rfl, _⟩ := kLe_own hk
    exact ⟨i, c, fr', e, h2⟩
  have key : ∀ {fr fr' : Bool} {v : V} {d : Dt}, (fr' = true → fr = true) → Rp K (FM f Δ σ true fr) H v d → Rp K (FM f Δ' σ true fr') H v d := fun hf h =>
    h.weak fun a fa => ⟨fun _ => ⟨fun z => (fa.1 rfl).1 (ow' a z), (fa.1 rfl).2⟩, fun e => fa.2 (hf e)⟩
  refine ⟨r.ext, r.g0, by rw [r.lσ, leA_len h], by rw [r.lρ, leA_len h], ?_, fun a ha => ⟨(r.pin a ha).1, fun z => (r.pin a ha).2 (ow' a z)⟩, fun g hg => (r.gh g hg).map fun _ _ x => key id x, fun i fr h' => ?_, fun i c fr h' => ?_, fun i c fr h' ha => ?_⟩
  · intro i j ci fi cj fj p h1 h2 h3 h4
    obtain ⟨k, e, hk⟩ := leA_get h h1
    obtain ⟨fr', rfl, _⟩ := kLe_own hk
    obtain ⟨k2, e2, hk2⟩ := leA_get h h2
    obtain ⟨fr2, rfl, _⟩ := kLe_own hk2
    exact r.inj i j _ _ _ _ p e e2 h3 h4
  · obtain ⟨k, e, hk⟩ := leA_get h h'
    rcases kLe_im hk with ⟨fr', rfl, hf⟩ | ⟨fr', rfl, hf⟩
    · obtain ⟨v, d, h1, h2, h3⟩ := r.im i fr' e
      exact ⟨v, d, h1, h2, key hf h3⟩
    · obtain ⟨p, d, h1, h2, h3, vs, ds, ed, hp, h4⟩ := r.ow i .l fr' e
      subst ed
      refine ⟨.ref p, _, h1, h2, .lst hp ⟨fun _ => ⟨fun z => ?_, fun z => ?_⟩, fun _ => r.g0 p h3⟩ (h4.map fun _ _ x => key hf x)⟩
      · obtain ⟨j, c, frj, g1, g2⟩ := z
        obtain ⟨k2, e2, hk2⟩ := leA_get h g1
        obtain ⟨fr2, rfl, _⟩ := kLe_own hk2
        have ij := r.inj i j _ _ _ _ p e e2 h1 g2
        subst ij
        rw [h'] at g1
        cases g1
      · exact (r.pin p z).2 ⟨i, .l, fr', e, h1⟩
  · obtain ⟨k, e, hk⟩ := leA_get h h'
    obtain ⟨fr', rfl, hf⟩ := kLe_own hk
    obtain ⟨p, d, h1, h2, h3, h4⟩ := r.ow i c fr' e
    exact ⟨p, d, h1, h2, h3, h4.map (fun o e => e) fun _ _ x => key hf x⟩
  · obtain ⟨k, e, hk⟩ := leA_get h h'
    obtain ⟨fr', rfl, hf⟩ := kLe_own hk
    exact r.ar i c fr' e ha

/-! ### targets -/
structure TgOk (K : PySem.W.Frag) (f : Fm) (Δ Δ' : List Kd) (ρ' : List Dt) (σ σ' : L2.St) (H : Hp) (sl : List Nat) : Prop where
  r : R K f Δ' ρ' σ' H
  keep : ∀ i, i ∉ sl → Δ'[i]? = Δ[i]? ∧ σ'[i]? = σ[i]?
  im : ∀ i, i ∈ sl → ∃ fr, Δ'[i]? = some (.im fr)
  len : Δ'.length = Δ.length
theorem TgOk.ow {ρ' : List Dt} {sl : List Nat} (t : TgOk K f Δ Δ' ρ' σ σ' H sl) {a : Addr} (h : Ow Δ' σ' a) : Ow Δ σ a := by
  obtain ⟨i, c, fr, h1, h2⟩ := h
  by_cases z : i ∈ sl
  · obtain ⟨fr', e⟩ := t.im i z
    rw [e] at h1; cases h1
  · obtain ⟨e1, e2⟩ := t.keep i z
    exact ⟨i, c, fr, e1 ▸ h1, e2 ▸ h2⟩
theorem TgOk.ow' {ρ' : List Dt} {sl : List Nat} (t : TgOk K f Δ Δ' ρ' σ σ' H sl) (no : ∀ i ∈ sl, ∀ c fr, Δ[i]? ≠ some (.own c fr)) {a : Addr} (h : Ow Δ σ a) : Ow Δ' σ' a := by
  obtain ⟨i, c, fr, h1, h2⟩ := h
  by_cases z : i ∈ sl
  · exact absurd h1 (no i z c fr)
  · obtain ⟨e1, e2⟩ := t.keep i z
    exact ⟨i, c, fr, e1 ▸ h1, e2 ▸ h2⟩
theorem TgOk.fm {ρ' : List Dt} {sl : List Nat} (t : TgOk K f Δ Δ' ρ' σ σ' H sl) {av fr : Bool} {a : Addr} (h : FM f Δ σ av fr a) : FM f Δ' σ' av fr a := ⟨fun e => ⟨fun z => (h.1 e).1 (t.ow z), (h.1 e).2⟩, h.2⟩
theorem TgOk.fm' {ρ' : List Dt} {sl : List Nat} (t : TgOk K f Δ Δ' ρ' σ σ' H sl) (no : ∀ i ∈ sl, ∀ c fr, Δ[i]? ≠ some (.own c fr)) {av fr : Bool} {a : Addr} (h : FM f Δ' σ' av fr a) : FM f Δ σ av fr a := ⟨fun e => ⟨fun z => (h.1 e).1 (t.ow' no z), (h.1 e).2⟩, h.2⟩
theorem TgOk.refl (r : R K f Δ ρ σ H) : TgOk K f Δ Δ ρ σ σ H [] := ⟨r, fun _ _ => ⟨rfl, rfl⟩, fun _ h => absurd h (by simp), rfl⟩
theorem TgOk.trans {Δ1 Δ2 : List Kd} {ρ1 ρ2 : List Dt} {σ1 σ2 : L2.St} {s1 s2 : List Nat} (t : TgOk K f Δ Δ1 ρ1 σ σ1 H s1) (u : TgOk K f Δ1 Δ2 ρ2 σ1 σ2 H s2) : TgOk K f Δ Δ2 ρ2 σ σ2 H (s1 ++ s2) := by
  refine ⟨u.r, fun i h => ?_, fun i h => ?_, u.len.trans t.len⟩
  · rw [List.mem_append, not_or] at h
    obtain ⟨a1, a2⟩ := t.keep i h.1
    obtain ⟨b1, b2⟩ := u.keep i h.2
    exact ⟨b1.trans a1, b2.trans a2⟩
  · by_cases z : i ∈ s2
    · exact u.im i z
    · rcases List.mem_append.mp h with h | h
      · obtain ⟨fr, e⟩ := t.im i h
        exact ⟨fr, (u.keep i z).1.trans e⟩
      · exact absurd h z
end

def GJ (K : PySem.W.Frag) (n : Nat) (g : TG) (sl : List Nat) (h : Dt → List Dt → O (List Dt)) (TK : Bool → List Kd → List Kd) : Prop := ∀ f Δ ρ σ H v d fr Q, Δ.length = n → R K f Δ ρ σ H → Rp K (FM f Δ σ true fr) H v d →
  (match h d ρ with | .ok ρ' => ∀ σ', TgOk K f Δ (TK fr Δ) ρ' σ σ' H sl → Q σ' H | _ => False) → g v σ H Q
def GJs (K : PySem.W.Frag) (n : Nat) (g : TGs) (sl : List Nat) (h : List Dt → List Dt → O (List Dt)) (TK : Bool → List Kd → List Kd) : Prop := ∀ f Δ ρ σ H vs ds fr Q, Δ.length = n → R K f Δ ρ σ H → RpA K (FM f Δ σ true fr) H vs ds →
  (match h ds ρ with | .ok ρ' => ∀ σ', TgOk K f Δ (TK fr Δ) ρ' σ σ' H sl → Q σ' H | _ => False) → g vs σ H Q
structure GD (X : Cx) (K : PySem.W.Frag) (n : Nat) (tg : Expr) (g : TG) (sl : List Nat) (h : Dt → List Dt → O (List Dt)) (TK : Bool → List Kd → List Kd) : Prop where
  pg : PG X tg g
  hK : X.K = K
  gj : GJ K n g sl h TK
structure GDs (X : Cx) (K : PySem.W.Frag) (n : Nat) (tg : List Expr) (g : TGs) (sl : List Nat) (h : List Dt → List Dt → O (List Dt)) (TK : Bool → List Kd → List Kd) : Prop where
  pg : PGs X tg g
  hK : X.K = K
  gj : GJs K n g sl h TK
def tgN (i : Nat) : Dt → List Dt → O (List Dt) := fun d ρ => .ok (ρ.set i d)
def tgT (h : List Dt → List Dt → O (List Dt)) : Dt → List Dt → O (List Dt) := fun d ρ => match d with
  | .tuple ds => h ds ρ
  | _ => .bad
def tgL (h : List Dt → List Dt → O (List Dt)) : Dt → List Dt → O (List Dt) := fun d ρ => match d with
  | .list ds => h ds ρ
  | _ => .bad
def tgNil : List Dt → List Dt → O (List Dt) := fun ds ρ => match ds with
  | [] => .ok ρ
  | _ => .bad
def tgCons (h : Dt → List Dt → O (List Dt)) (u : List Dt → List Dt → O (List Dt)) : List Dt → List Dt → O (List Dt) := fun ds ρ => match ds with
  | d :: r => (match h d ρ with
    | .ok ρ' => u r ρ'
    | _ => .bad)
  | [] => .bad
def TKN (i : Nat) : Bool → List Kd → List Kd := fun fr Δ => Δ.set i (.im fr)
def TK0 : Bool → List Kd → List Kd := fun _ Δ => Δ
def TKC (a b : Bool → List Kd → List Kd) : Bool → List Kd → List Kd := fun fr Δ => b fr (a fr Δ)

section
variable {K : PySem.W.Frag} {n : Nat}
theorem gj_name {i : Nat} (hi : i < n) : GJ K n (gName i) [i] (tgN i) (TKN i) := fun f Δ ρ σ H v d fr Q hl R x q => by
  have hi' : i < Δ.length := by rw [hl]; exact hi
  refine q (σ.set i (some v)) ⟨R.setIm hi' x, fun j h => ?_, fun j h => ?_, by unfold TKN; rw [List.length_set]⟩
  · have : i ≠ j := fun e => h (by rw [e]; exact List.mem_singleton.mpr rfl)
    unfold TKN
    exact ⟨List.getElem?_set_ne this, List.getElem?_set_ne this⟩
  · have : j = i := List.mem_singleton.mp h
    subst this
    unfold TKN
    exact ⟨fr, List.getElem?_set_self hi'⟩
theorem gj_nil : GJs K n L2.gNil [] tgNil TK0 := fun f Δ ρ σ H vs ds fr Q hl R x q => by
  cases x with
  | nil => exact ⟨rfl, q σ (.refl R)⟩
  | cons => exact q.elim
theorem gj_cons {g : TG} {gs : TGs} {s1 s2 : List Nat} {h : Dt → List Dt → O (List Dt)} {u : List Dt → List Dt → O (List Dt)} {T1 T2 : Bool → List Kd → List Kd} (a : GJ K n g s1 h T1) (b : GJs K n gs s2 u T2) :
    GJs K n (L2.gCons g gs) (s1 ++ s2) (tgCons h u) (TKC T1 T2) := fun f Δ ρ σ H vs ds fr Q hl R x q => by
  cases x with
  | nil => exact q.elim
  | cons x r =>
    refine ⟨_, _, rfl, ?_⟩
    unfold tgCons at q
    refine a f Δ ρ σ H _ _ fr _ hl R x ?_
    simp only at q
    revert q
    cases e : h _ ρ with
    | bad => exact fun q => q.elim
    | ex z => exact fun q => q.elim
    | ok ρ1 =>
      intro q σ1 t1
      refine b f _ ρ1 σ1 H _ _ fr _ (t1.len.trans hl) t1.r (r.weak fun _ y => t1.fm y) ?_
      simp only at q
      revert q
      cases e2 : u _ ρ1 with
      | bad => exact fun q => q.elim
      | ex z => exact fun q => q.elim
      | ok ρ2 => exact fun q σ2 t2 => q σ2 (t1.trans t2)
theorem gj_tup {m : Nat} {gs : TGs} {sl : List Nat} {u : List Dt → List Dt → O (List Dt)} {T : Bool → List Kd → List Kd} (b : GJs K n gs sl u T) (hm : ∀ ds ρ, ds.length ≠ m → ∀ z, u ds ρ ≠ .ok z) :
    GJ K n (L2.gTup K m gs) sl (tgT u) T := fun f Δ ρ σ H v d fr Q hl R x q => by
  cases d with
  | tuple ds =>
    obtain ⟨a, xs, rfl, hs, r⟩ := x.sqt
    have q : (match u ds ρ with | .ok ρ' => ∀ σ', TgOk K f Δ (T fr Δ) ρ' σ σ' H sl → Q σ' H | _ => False) := q
    refine ⟨a, xs, rfl, hs, ?_, b f Δ ρ σ H xs ds fr Q hl R r q⟩
    by_cases e : ds.length = m
    · rw [r.length]; exact e
    · cases eu : u ds ρ with
      | ok z => exact absurd eu (hm ds ρ e z)
      | bad => rw [eu] at q; exact q.elim
      | ex z => rw [eu] at q; exact q.elim
  | _ => exact q.elim
theorem tgNil_len : ∀ ds ρ, ds.length ≠ 0 → ∀ z, tgNil ds ρ ≠ .ok z
  | [], _, h, _ => absurd rfl h
  | _ :: _, _, _, _ => fun e => by cases e
theorem tgCons_len {m : Nat} {h : Dt → List Dt → O (List Dt)} {u : List Dt → List Dt → O (List Dt)} (hu : ∀ ds ρ, ds.length ≠ m → ∀ z, u ds ρ ≠ .ok z) : ∀ ds ρ, ds.length ≠ m + 1 → ∀ z, tgCons h u ds ρ ≠ .ok z
  | [], _, _, _ => fun e => by cases e
  | d :: r, ρ, hl, z => fun e => by
    unfold tgCons at e
    simp only at e
    cases eh : h d ρ with
    | bad => rw [eh] at e; cases e
    | ex y => rw [eh] at e; cases e
    | ok ρ' =>
      rw [eh] at e
      exact hu r ρ' (fun q => hl (by rw [List.length_cons, q])) z e
end
section
variable {X : Cx} {K : PySem.W.Frag} {n : Nat} {pos : Pos}
theorem g_name (i : Nat) {x : Str} (hN : X.N.Nodup) (hn : i < n := by decide) (hi : X.N[i]? = some x := by rfl) (hx : Loc X.env.scope x := by first | exact .inl rfl | exact .inr rfl) (hf : X.fn x = true ∨ X.env.scope.names.lookup x = some .local := by first | exact .inl rfl | exact .inr rfl) (hK : X.K = K := by rfl) :
    GD X K n (.Name x pos) (gName i) [i] (tgN i) (TKN i) := ⟨pg_name hN hi hx hf, hK, gj_name hn⟩
theorem g_nil (hK : X.K = K := by rfl) : GDs X K n [] L2.gNil [] tgNil TK0 := ⟨pgs_nil, hK, gj_nil⟩
theorem g_cons {e : Expr} {es : List Expr} {g : TG} {gs : TGs} {s1 s2 : List Nat} {h : Dt → List Dt → O (List Dt)} {u : List Dt → List Dt → O (List Dt)} {T1 T2 : Bool → List Kd → List Kd} (a : GD X K n e g s1 h T1) (b : GDs X K n es gs s2 u T2)
    (hs : (assignEach (e :: es) X.env).map (·.2) = assign e X.env :: (assignEach es X.env).map (·.2) := by rfl) : GDs X K n (e :: es) (L2.gCons g gs) (s1 ++ s2) (tgCons h u) (TKC T1 T2) := ⟨pgs_cons a.pg b.pg hs, a.hK, gj_cons a.gj b.gj⟩
end

/-! ### comprehensions -/
abbrev W0 : Wt := fun _ _ _ => False
def wipeK (Δ : List Kd) : List Nat → List Kd
  | [] => Δ
  | v :: vs => (wipeK Δ vs).set v .no
def noOwn (Δ : List Kd) (vs : List Nat) : Bool := vs.all fun i => match Δ[i]? with
  | some (.own _ _) => false
  | _ => true
theorem wipeK_len (Δ : List Kd) : ∀ vs, (wipeK Δ vs).length = Δ.length
  | [] => rfl
  | v :: vs => by unfold wipeK; rw [List.length_set, wipeK_len Δ vs]
theorem wipeK_out {Δ : List Kd} {i : Nat} : ∀ {vs : List Nat}, i ∉ vs → (wipeK Δ vs)[i]? = Δ[i]?
  | [], _ => rfl
  | v :: vs, h => by
    unfold wipeK
    rw [List.getElem?_set_ne (fun e => h (by rw [e]; exact List.mem_cons_self)), wipeK_out fun z => h (List.mem_cons_of_mem _ z)]
theorem wipeK_in {Δ : List Kd} {i : Nat} : ∀ {vs : List Nat}, i ∈ vs → ∀ k, (wipeK Δ vs)[i]? = some k → k = .no
  | [], h, _, _ => absurd h (by simp)
  | v :: vs, h, k, e => by
    unfold wipeK at e
    by_cases z : v = i
    · subst z
      by_cases hv : v < (wipeK Δ vs).length
      · rw [List.getElem?_set_self hv] at e
        exact (Option.some.inj e).symm
      · rw [List.getElem?_eq_none (by rw [List.length_set]; omega)] at e
        cases e
    · rw [List.getElem?_set_ne z] at e
      rcases List.mem_cons.mp h with q | q
      · exact absurd q.symm z
      · exact wipeK_in q k e
theorem wipe_out {σ : L2.St} {i : Nat} : ∀ {vs : List Nat}, i ∉ vs → (wipe σ vs)[i]? = σ[i]?
  | [], _ => rfl
  | v :: vs, h => by
    unfold wipe
    rw [List.getElem?_set_ne (fun e => h (by rw [e]; exact List.mem_cons_self)), wipe_out fun z => h (List.mem_cons_of_mem _ z)]
theorem wipe_in {σ : L2.St} {i : Nat} : ∀ {vs : List Nat}, i ∈ vs → i < σ.length → (wipe σ vs)[i]? = some none
  | [], h, _ => absurd h (by simp)
  | v :: vs, h, hl => by
    unfold wipe
    by_cases z : v = i
    · subst z
      rw [List.getElem?_set_self (by rw [wipe_length]; exact hl)]
    · rw [List.getElem?_set_ne z]
      rcases List.mem_cons.mp h with q | q
      · exact absurd q.symm z
      · exact wipe_in q hl
theorem wipe_eq {σ σ' : L2.St} {vs : List Nat} (hl : σ'.length = σ.length) (h : ∀ i, i ∉ vs → σ'[i]? = σ[i]?) : wipe σ' vs = wipe σ vs := by
  apply List.ext_getElem?
  intro i
  by_cases z : i ∈ vs
  · by_cases q : i < σ.length
    · rw [wipe_in z (by rw [hl]; exact q), wipe_in z q]
    · rw [List.getElem?_eq_none (by rw [wipe_length, hl]; omega), List.getElem?_eq_none (by rw [wipe_length]; omega)]
  · rw [wipe_out z, wipe_out z]
    exact h i z
theorem noOwn_get {Δ : List Kd} {vs : List Nat} (h : noOwn Δ vs = true) {i : Nat} (hi : i ∈ vs) {c : Ct} {fr : Bool} : Δ[i]? ≠ some (.own c fr) := fun e => by
  have q := List.all_eq_true.mp h i hi
  rw [e] at q
  cases q
section
variable {K : PySem.W.Frag} {f : Fm} {Δ : List Kd} {ρ : List Dt} {σ : L2.St} {H : Hp}
theorem ow_wipe {vs : List Nat} (h : noOwn Δ vs = true) {a : Addr} : Ow (wipeK Δ vs) (wipe σ vs) a ↔ Ow Δ σ a := by
  constructor
  · rintro ⟨i, c, fr, h1, h2⟩
    have z : i ∉ vs := fun z => by cases wipeK_in z _ h1
    exact ⟨i, c, fr, by rw [← wipeK_out z]; exact h1, by rw [← wipe_out z]; exact h2⟩
  · rintro ⟨i, c, fr, h1, h2⟩
    have z : i ∉ vs := fun z => noOwn_get h z h1
    exact ⟨i, c, fr, by rw [wipeK_out z]; exact h1, by rw [wipe_out z]; exact h2⟩
theorem fm_wipe {vs : List Nat} (h : noOwn Δ vs = true) {av fr : Bool} {a : Addr} : FM f (wipeK Δ vs) (wipe σ vs) av fr a ↔ FM f Δ σ av fr a := by
  unfold FM
  rw [ow_wipe h]
theorem R.wipe {vs : List Nat} (h : noOwn Δ vs = true) (r : R K f Δ ρ σ H) : R K f (wipeK Δ vs) ρ (L2.wipe σ vs) H := by
  refine ⟨r.ext, r.g0, by rw [wipe_length, wipeK_len]; exact r.lσ, by rw [wipeK_len]; exact r.lρ, ?_, fun a ha => ⟨(r.pin a ha).1, fun z => (r.pin a ha).2 ((ow_wipe h).mp z)⟩, fun g hg => (r.gh g hg).weak fun a y => (fm_wipe h).mpr y, fun i fr h' => ?_, fun i c fr h' => ?_, fun i c fr h' ha => ?_⟩
  · intro i j ci fi cj fj p h1 h2 h3 h4
    have z1 : i ∉ vs := fun z => by cases wipeK_in z _ h1
    have z2 : j ∉ vs := fun z => by cases wipeK_in z _ h2
    rw [wipeK_out z1] at h1
    rw [wipeK_out z2] at h2
    rw [wipe_out z1] at h3
    rw [wipe_out z2] at h4
    exact r.inj i j _ _ _ _ p h1 h2 h3 h4
  · have z1 : i ∉ vs := fun z => by cases wipeK_in z _ h'
    rw [wipeK_out z1] at h'
    obtain ⟨v, d, h1, h2, h3⟩ := r.im i fr h'
    exact ⟨v, d, by rw [wipe_out z1]; exact h1, h2, h3.weak fun a y => (fm_wipe h).mpr y⟩
  · have z1 : i ∉ vs := fun z => by cases wipeK_in z _ h'
    rw [wipeK_out z1] at h'
    obtain ⟨v, d, h1, h2, h3, h4⟩ := r.ow i c fr h'
    exact ⟨v, d, by rw [wipe_out z1]; exact h1, h2, h3, h4.map (fun o e => e) fun _ _ x => x.weak fun a y => (fm_wipe h).mpr y⟩
  · have z1 : i ∉ vs := fun z => by cases wipeK_in z _ h'
    rw [wipeK_out z1] at h'
    obtain ⟨p, h1, h2⟩ := r.ar i c fr h' ha
    exact ⟨p, h1, by rw [wipe_out z1]; exact h2⟩
/-- a new list at p and what is walked, kept in mind -/
def Fm.with (f : Fm) (P : List Addr) (g : List (List V × List Dt × Bool)) : Fm := { f with P := P ++ f.P, Γ := g ++ f.Γ }
theorem R.addG {vs : List V} {es : List Dt} {fr : Bool} (r : R K f Δ ρ σ H) (x : RpA K (FM f Δ σ true fr) H vs es) : R K { f with Γ := (vs, es, fr) :: f.Γ } Δ ρ σ H := by
  refine ⟨r.ext, r.g0, r.lσ, r.lρ, r.inj, r.pin, fun g hg => ?_, r.im, r.ow, r.ar⟩
  rcases List.mem_cons.mp hg with e | h
  · subst e; exact x
  · exact r.gh g h
theorem R.dropG {g : List V × List Dt × Bool} {Γ : List (List V × List Dt × Bool)} (r : R K { f with Γ := g :: Γ } Δ ρ σ H) : R K { f with Γ := Γ } Δ ρ σ H :=
  ⟨r.ext, r.g0, r.lσ, r.lρ, r.inj, r.pin, fun g hg => r.gh g (List.mem_cons_of_mem _ hg), r.im, r.ow, r.ar⟩
theorem R.addP {p : Addr} {o : HO} (r : R K f Δ ρ σ H) (np : H p = none) (m : Mutb o) : R K { f with P := p :: f.P } Δ ρ σ (upd H p o) := by
  obtain ⟨f1, f2, f3⟩ := r.fresh np
  have key : ∀ {fr : Bool} {v : V} {d : Dt}, Rp K (FM f Δ σ true fr) H v d → Rp K (FM { f with P := p :: f.P } Δ σ true fr) (upd H p o) v d := fun h =>
    h.mono (same_upd np) fun a fa na => ⟨fun _ => ⟨(fa.1 rfl).1, fun z => by
      rcases List.mem_cons.mp z with e | h
      · exact na (e ▸ np)
      · exact (fa.1 rfl).2 h⟩, fa.2⟩
  refine ⟨r.ext.trans (same_upd np), r.g0, r.lσ, r.lρ, r.inj, fun a ha => ?_, fun g hg => (r.gh g hg).map fun _ _ x => key x, fun i fr h => ?_, fun i c fr h => ?_, r.ar⟩
  · rcases List.mem_cons.mp ha with e | h
    · subst e
      exact ⟨⟨o, upd_same, m⟩, f1⟩
    · obtain ⟨⟨u, hu, mu⟩, no⟩ := r.pin a h
      exact ⟨⟨u, same_upd np _ _ hu, mu⟩, no⟩
  · obtain ⟨v, d, h1, h2, h3⟩ := r.im i fr h
    exact ⟨v, d, h1, h2, key h3⟩
  · obtain ⟨v, d, h1, h2, h3, h4⟩ := r.ow i c fr h
    exact ⟨v, d, h1, h2, h3, h4.map (fun o e => same_upd np _ _ e) fun _ _ x => key x⟩
end

def lcE (h : Dt → List Dt → O (List Dt)) (gt : List Dt → O Bool) (ge : Gd) (ρ : List Dt) : List Dt → O (List Dt)
  | [] => .ok []
  | d :: ds => bnd (h d ρ) fun ρ' => bnd (gt ρ') fun b => if b then bnd (ge ρ') fun e => bnd (lcE h gt ge ρ ds) fun es => .ok (e :: es) else lcE h gt ge ρ ds
def gLc (gi : List Dt → O (List Dt)) (h : Dt → List Dt → O (List Dt)) (gt : List Dt → O Bool) (ge : Gd) : Gd := fun ρ => bnd (gi ρ) fun ds => if ds.length ≤ 100000 then (match lcE h gt ge ρ ds with
  | .ok es => .ok (.list es)
  | _ => .bad) else .bad
def gYes : List Dt → O Bool := fun _ => .ok true
theorem bnd_inv {α β : Type} {x : O α} {k : α → O β} {z : β} (h : bnd x k = .ok z) : ∃ a, x = .ok a ∧ k a = .ok z := by
  cases x with
  | bad => cases h
  | ex e => cases h
  | ok a => exact ⟨a, rfl, h⟩

theorem se_lc {K : PySem.W.Frag} {W : Wt} {Δ : List Kd} {wi : TI} {g : TG} {tt : TT} {te : TE} {vs sl : List Nat} {b fr fr' : Bool} {gi : List Dt → O (List Dt)} {h : Dt → List Dt → O (List Dt)} {TK : Bool → List Kd → List Kd} {gt : List Dt → O Bool} {ge : Gd} {n : Nat}
    (hi : SI K W Δ wi b fr gi) (hg : GJ K n g sl h TK) (hn : Δ.length = n) (hsl : ∀ i ∈ sl, i ∈ vs) (no : noOwn Δ vs = true) (ht : ST K W0 (TK fr (wipeK Δ vs)) tt gt) (he : SE K W0 (TK fr (wipeK Δ vs)) te (.v true fr') ge) :
    SE K W Δ (tLc wi g tt te vs) (.new .l fr') (gLc gi h gt ge) := fun f ρ σ H Q r q => by
  refine hi f ρ σ H _ r ?_
  unfold gLc at q
  cases e1 : gi ρ with
  | bad => rw [e1] at q; exact q
  | ex z => rw [e1] at q; exact q
  | ok ds =>
    rw [e1, bnd_ok] at q
    by_cases hl : ds.length ≤ 100000
    · rw [if_pos hl] at q
      cases ea : lcE h gt ge ρ ds with
      | bad => rw [ea] at q; exact q.elim
      | ex z => rw [ea] at q; exact q.elim
      | ok all =>
        rw [ea] at q
        intro J H1 pf gv ge0 s1 hb hpf x1 sc D nD
        -- the frame within
        have r1 := (((r.mono s1).addP (o := .lst []) nD trivial).addG (fr := fr) (x1.mono (same_upd nD) fun a fa na => ⟨fun _ => ⟨(fa.1 rfl).1, fun z => by
          rcases List.mem_cons.mp z with e | h
          · exact na (e ▸ nD)
          · exact (fa.1 rfl).2 h⟩, fa.2⟩))
        generalize hf1 : ({ f with P := D :: f.P, Γ := (gv, ge0, fr) :: f.Γ } : Fm) = f1 at r1
        have r1 : R K f1 Δ ρ σ (upd H1 D (.lst [])) := by rw [← hf1]; rw [← hf1] at r1; exact r1
        have dP : D ∈ f1.P := by rw [← hf1]; exact List.mem_cons_self
        have gG : (gv, ge0, fr) ∈ f1.Γ := by rw [← hf1]; exact List.mem_cons_self
        have h0 : f1.H0 D = none := by rw [← hf1]; exact ((r.mono s1).fresh nD).2.2
        have fmf : ∀ {fr : Bool} {a : Addr}, FM f1 Δ σ true fr a → FM f Δ σ true fr a ∧ a ≠ D := fun {fr a} y => by
          rw [← hf1] at y
          exact ⟨⟨fun e => ⟨(y.1 e).1, fun z => (y.1 e).2 (List.mem_cons_of_mem _ z)⟩, y.2⟩, fun z => (y.1 rfl).2 (z ▸ List.mem_cons_self)⟩
        have noSl : ∀ i ∈ sl, ∀ c fr, (wipeK Δ vs)[i]? ≠ some (.own c fr) := fun i hi c fr e => by cases wipeK_in (hsl i hi) _ e
        refine ⟨fun i m H' => m = ds.length - i ∧ i ≤ ds.length ∧ ∃ acc es rest, H' D = some (.lst acc) ∧ R K f1 Δ ρ σ H' ∧ RpA K (FM f1 Δ σ true fr') H' acc es ∧ acc.length ≤ i ∧ lcE h gt ge ρ (ds.drop i) = .ok rest ∧ all = es ++ rest ∧ Same H H' ∧ (∀ q, pf = some q → H' q.1 = some q.2),
          ⟨ds.length, by simp, Nat.zero_le _, [], [], all, upd_same, r1, .nil, Nat.le_refl _, ea, rfl, s1.trans (same_upd nD), fun q eq => same_upd nD _ _ (hpf q eq)⟩, ?_⟩
        rintro i m H2 ⟨rfl, hi2, acc, es, rest, hD, r2, x2, la, er, eall, sHH, hpf2⟩
        have stand : (∀ q, pf = some q → H2 q.1 = some q.2) ∧ ∃ F, RpA K F H2 gv ge0 := ⟨hpf2, _, r2.gh _ gG⟩
        by_cases hlt : i < ds.length
        · refine .inr ⟨sc.goes i H2 hlt stand, fun H' => i + 1 ≤ ds.length ∧ ∃ acc es rest, H' D = some (.lst acc) ∧ R K f1 Δ ρ σ H' ∧ RpA K (FM f1 Δ σ true fr') H' acc es ∧ acc.length ≤ i + 1 ∧ lcE h gt ge ρ (ds.drop (i + 1)) = .ok rest ∧ all = es ++ rest ∧ Same H H' ∧ (∀ q, pf = some q → H' q.1 = some q.2),
            fun H' w => ⟨ds.length - (i + 1), by omega, rfl, w⟩, fun x H3 hy => ?_⟩
          obtain ⟨s3, hx⟩ := sc.yields i H2 x H3 hlt stand hy
          obtain ⟨d, hd, x3⟩ := hx _ (r2.gh _ gG)
          have edrop : ds.drop i = d :: ds.drop (i + 1) := by
            have hd' := (List.getElem?_eq_some_iff.mp hd).2
            rw [List.drop_eq_getElem_cons hlt, hd']
          rw [edrop] at er
          unfold lcE at er
          obtain ⟨ρ', eh, er⟩ := bnd_inv er
          obtain ⟨c, ec, er⟩ := bnd_inv er
          have r3 := r2.mono s3
          refine hg f1 (wipeK Δ vs) ρ (wipe σ vs) H3 x d fr _ (by rw [wipeK_len]; exact hn) (r3.wipe no) (x3.weak fun a y => (fm_wipe no).mpr y) ?_
          rw [eh]
          intro σ4 t4
          refine ⟨?_, ?_⟩
          · rw [wipe_eq (σ' := σ4) (σ := wipe σ vs) (by rw [t4.r.lσ, t4.len, wipeK_len, wipe_length, r.lσ]) fun i hi => (t4.keep i fun z => hi (hsl i z)).2]
            exact wipe_eq (wipe_length σ vs) fun i hi => wipe_out hi
          · refine ht f1 ρ' σ4 H3 _ t4.r ?_
            rw [ec]
            intro H4 s4
            cases c with
            | false =>
              show (if false = true then _ else _)
              rw [if_neg Bool.false_ne_true]
              have er : lcE h gt ge ρ (ds.drop (i + 1)) = .ok rest := er
              have s24 := s3.trans s4
              exact ⟨hlt, acc, es, rest, s24 _ _ hD, r2.mono s24, x2.same s24, by omega, er, eall, sHH.trans s24, fun q eq => s24 _ _ (hpf2 q eq)⟩
            | true =>
              show (if true = true then _ else _)
              rw [if_pos rfl]
              have er : bnd (ge ρ') (fun e => bnd (lcE h gt ge ρ (ds.drop (i + 1))) fun es => .ok (e :: es)) = .ok rest := er
              obtain ⟨e, ee, er⟩ := bnd_inv er
              obtain ⟨es', ees, er⟩ := bnd_inv er
              cases er
              refine he f1 ρ' σ4 H4 _ (t4.r.mono s4) ?_
              rw [ee]
              intro y H5 s5 x5
              have s25 := (s3.trans s4).trans s5
              have hD5 := s25 _ _ hD
              refine ⟨acc, hD5, Nat.lt_of_lt_of_le (show acc.length < 100001 by omega) (by decide), hlt, acc ++ [y], es ++ [e], es', upd_same, (r2.mono s25).updAt hD5 trivial trivial h0 (fun z => ((r2.pin D dP).2 z)) dP, ?_, by rw [List.length_append, List.length_singleton]; omega, ees, by rw [eall]; simp, ?_, fun q eq => ?_⟩
              · refine ((x2.same s25).updM hD5 trivial fun a y z => (y.1 rfl).2 (z ▸ dP)).append (.cons ?_ .nil)
                refine Rp.updM hD5 trivial (fun a y z => (y.1 rfl).2 (z ▸ dP)) (x5.weak fun a y => (fm_wipe no).mp (t4.fm' noSl y))
              · intro a o ha
                have na : a ≠ D := fun z => by
                  have z1 := s1 _ _ ha
                  rw [z, nD] at z1
                  cases z1
                rw [upd_ne na]
                exact s25 _ _ (sHH _ _ ha)
              · have nq : q.1 ≠ D := fun z => by
                  have z1 := hpf q eq
                  rw [z, nD] at z1
                  cases z1
                rw [upd_ne nq]
                exact s25 _ _ (hpf2 q eq)
        · have ei : i = ds.length := by omega
          subst ei
          refine .inl ⟨sc.stops H2 stand, ?_⟩
          rw [List.drop_length] at er
          cases er
          rw [List.append_nil] at eall
          subst eall
          refine q D H2 (s1.free nD) sHH ⟨acc, _, rfl, hD, x2.weak fun a y => fmf y⟩
    · rw [if_neg hl] at q
      exact q.elim
end Sim
end T_SimE

section T_SimF
set_option Elab.async false
set_option linter.all false
set_option maxRecDepth 100000
/-! SimF: statements, calls, defs. -/
namespace Sim
open PySem PySem.Spec L2
open PyProof.Rows hiding St

inductive Fl where
  | nx (ρ : List Dt) | rt (d : Dt) | bk (ρ : List Dt) | ct (ρ : List Dt)
abbrev Gs := List Dt → O Fl

/-- how a def tells: a value, a new list; the same of a def that changes its argument -/
inductive Lk where
  | n | l | m | ml
def sclA : List Dt → Bool
  | [] => true
  | d :: ds => scl d && sclA ds
def sclV : List (Dt × Dt) → Bool
  | [] => true
  | d :: ds => scl d.2 && sclV ds
/-- what stands at an argument's place: scalars -/
def ArgAt (K : PySem.W.Frag) (H : Hp) (a : Addr) (d : Dt) : Prop := match d with
  | .list es => sclA es = true ∧ ∃ ws, H a = some (.lst ws) ∧ RpA K (fun _ => False) H ws es
  | .dict es => sclV es = true ∧ ∃ kvs, H a = some (.dK kvs) ∧ KvA K (fun _ => False) H kvs es
  | _ => False
def PoS (K : PySem.W.Frag) (W : Wt) (L : Lk) (f : Fm) (Δn Δb Δc : List Kd) (o : O Fl) (E : Ends) : Prop := match o with
  | .bad => False
  | .ex e => ∀ σ' H', Same f.H0 H' → W e σ' H'
  | .ok (.nx ρ) => ∀ σ' H', R K f Δn ρ σ' H' → E.nx σ' H'
  | .ok (.rt d) => (match L with
    | .l => ∀ p H', f.H0 p = none → Same f.H0 H' → OwC K .l (fun a => f.G a ∧ a ≠ p) H' p d → E.rt (.ref p) H'
    | .n => ∀ v H', Same f.H0 H' → Rp K f.G H' v d → E.rt v H'
    | .m => (match f.A, d with
      | some a, .tuple [r, e] => ∀ v H', Same f.H0 H' → ArgAt K H' a e → Rp K (fun b => f.G b ∧ b ≠ a) H' v r → E.rt v H'
      | _, _ => False)
    | .ml => (match f.A, d with
      | some a, .tuple [r, e] => ∀ p H', p ≠ a → f.H0 p = none → Same f.H0 H' → ArgAt K H' a e → OwC K .l (fun b => (f.G b ∧ b ≠ a) ∧ b ≠ p) H' p r → E.rt (.ref p) H'
      | _, _ => False))
  | .ok (.bk ρ) => ∀ σ' H', R K f Δb ρ σ' H' → E.bk σ' H'
  | .ok (.ct ρ) => ∀ σ' H', R K f Δc ρ σ' H' → E.ct σ' H'
def SS (K : PySem.W.Frag) (W : Wt) (L : Lk) (Δ Δn Δb Δc : List Kd) (ts : TS) (g : Gs) : Prop := ∀ f ρ σ H E, R K f Δ ρ σ H → PoS K W L f Δn Δb Δc (g ρ) E → ts E σ H

/-! ### closures -/
def gNext : Gs := fun ρ => .ok (.nx ρ)
def gSeqS (a b : Gs) : Gs := fun ρ => match a ρ with
  | .ok (.nx ρ') => b ρ'
  | o => o
def gRet (g : Gd) : Gs := fun ρ => bnd (g ρ) fun d => .ok (.rt d)
def gRetN : Gs := fun _ => .ok (.rt .none)
def gAsg (g : Gd) (h : Dt → List Dt → O (List Dt)) : Gs := fun ρ => bnd (g ρ) fun d => match h d ρ with
  | .ok ρ' => .ok (.nx ρ')
  | _ => .bad
def gSet (i : Nat) (g : Gd) : Gs := fun ρ => bnd (g ρ) fun d => .ok (.nx (ρ.set i d))
def gPar (i j : Nat) (g : List Dt → O (List Dt)) : Gs := fun ρ => bnd (g ρ) fun ds => match ds with
  | [a, b] => .ok (.nx ((ρ.set i a).set j b))
  | _ => .bad
def gAug (h : Int → Int → Int) (i : Nat) (g : Gd) : Gs := fun ρ => match ρ[i]? with
  | some (.int a) => bnd (g ρ) fun d => (match d with
    | .int b => .ok (.nx (ρ.set i (.int (h a b))))
    | _ => .bad)
  | _ => .bad
def gDrop (g : Gd) : Gs := fun ρ => bnd (g ρ) fun _ => .ok (.nx ρ)
def gApp (i : Nat) (g : Gd) : Gs := fun ρ => match ρ[i]? with
  | some (.list ds) => bnd (g ρ) fun d => if ds.length < 100000 then .ok (.nx (ρ.set i (.list (ds ++ [d])))) else .bad
  | _ => .bad
def gExt (i : Nat) (g : Gd) : Gs := fun ρ => match ρ[i]? with
  | some (.list ds) => bnd (g ρ) fun d => (match d with
    | .list es => if ds.length + es.length ≤ 100000 then .ok (.nx (ρ.set i (.list (ds ++ es)))) else .bad
    | _ => .bad)
  | _ => .bad
def gSetI (i : Nat) (ge gi : Gd) : Gs := fun ρ => bnd (ge ρ) fun d => match ρ[i]? with
  | some (.list ds) => bnd (gi ρ) fun k => (match k with
    | .int k => (match ixN ds.length k with
      | some j => .ok (.nx (ρ.set i (.list (ds.set j d))))
      | none => .bad)
    | _ => .bad)
  | _ => .bad
def gIfS (t : List Dt → O Bool) (a b : Gs) : Gs := fun ρ => bnd (t ρ) fun c => if c then a ρ else b ρ
def gWhile (t : List Dt → O Bool) (b : Gs) : Nat → Gs
  | 0 => fun _ => .bad
  | n + 1 => fun ρ => bnd (t ρ) fun c => if c then (bnd (b ρ) fun fl => match fl with
    | .nx ρ' => gWhile t b n ρ'
    | .ct ρ' => gWhile t b n ρ'
    | .bk ρ' => .ok (.nx ρ')
    | .rt d => .ok (.rt d)) else .ok (.nx ρ)
def forE (h : Dt → List Dt → O (List Dt)) (b : Gs) : List Dt → Gs
  | [] => fun ρ => .ok (.nx ρ)
  | d :: ds => fun ρ => match h d ρ with
    | .ok ρ1 => bnd (b ρ1) fun fl => (match fl with
      | .nx ρ' => forE h b ds ρ'
      | .ct ρ' => forE h b ds ρ'
      | .bk ρ' => .ok (.nx ρ')
      | .rt d => .ok (.rt d))
    | _ => .bad
def gFor (gi : List Dt → O (List Dt)) (h : Dt → List Dt → O (List Dt)) (b : Gs) : Gs := fun ρ => bnd (gi ρ) fun ds => forE h b ds ρ

section
variable {K : PySem.W.Frag} {W : Wt} {Δ Δ1 Δ2 Δn Δb Δc : List Kd} {te ti : TE} {tt : TT} {t u : TS} {ta : TA} {g ge gi : Gd} {gt : List Dt → O Bool} {gA : List Dt → O (List Dt)} {ga gb : Gs} {fr fr' av av' : Bool} {L : Lk} {i j : Nat}

theorem SS.pre (h : SS K W L Δ1 Δn Δb Δc t ga) (l : leA Δ Δ1 = true) : SS K W L Δ Δn Δb Δc t ga := fun f ρ σ H E r q => h f ρ σ H E (r.weak l) q
theorem SS.post {Δn' Δb' Δc' : List Kd} (h : SS K W L Δ Δn Δb Δc t ga) (ln : leA Δn Δn' = true) (lb : leA Δb Δb' = true) (lc : leA Δc Δc' = true) : SS K W L Δ Δn' Δb' Δc' t ga := fun f ρ σ H E r q => h f ρ σ H E r <| by
  cases e : ga ρ with
  | bad => rw [e] at q; exact q
  | ex z => rw [e] at q; exact q
  | ok fl =>
    rw [e] at q
    cases fl with
    | nx ρ' => exact fun σ' H' r => q σ' H' (r.weak ln)
    | rt d => exact q
    | bk ρ' => exact fun σ' H' r => q σ' H' (r.weak lb)
    | ct ρ' => exact fun σ' H' r => q σ' H' (r.weak lc)
theorem s_next : SS K W L Δ Δ Δb Δc tNext gNext := fun f ρ σ H E r q => q σ H r
theorem s_seq (h1 : SS K W L Δ Δ1 Δb Δc t ga) (h2 : SS K W L Δ1 Δn Δb Δc u gb) : SS K W L Δ Δn Δb Δc (tSeq t u) (gSeqS ga gb) := fun f ρ σ H E r q => h1 f ρ σ H _ r <| by
  unfold gSeqS at q
  cases e : ga ρ with
  | bad => rw [e] at q; exact q
  | ex z => rw [e] at q; exact q
  | ok fl =>
    rw [e] at q
    cases fl with
    | nx ρ' => exact fun σ' H' r' => h2 f ρ' σ' H' E r' q
    | rt d => exact q
    | bk ρ' => exact q
    | ct ρ' => exact q
theorem s_ret (h : SE K W Δ te (.v av true) g) : SS K W .n Δ Δn Δb Δc (tRet te) (gRet g) := fun f ρ σ H E r q => h f ρ σ H _ r <| by
  unfold gRet at q
  cases e : g ρ with
  | bad => rw [e] at q; exact q
  | ex z => rw [e] at q; exact fun H' s => q σ H' (r.ext.trans s)
  | ok d =>
    rw [e] at q
    exact fun v H' s x => q v H' (r.ext.trans s) (x.weak fun a fa => fa.2 rfl)
theorem s_retL (h : SE K W Δ te (.new .l true) g) : SS K W .l Δ Δn Δb Δc (tRet te) (gRet g) := fun f ρ σ H E r q => h f ρ σ H _ r <| by
  unfold gRet at q
  cases e : g ρ with
  | bad => rw [e] at q; exact q
  | ex z => rw [e] at q; exact fun H' s => q σ H' (r.ext.trans s)
  | ok d =>
    rw [e] at q
    exact fun p H' np s x => q p H' (r.fresh np).2.2 (r.ext.trans s) (x.map (fun _ e => e) fun _ _ y => y.weak fun a fa => ⟨fa.1.2 rfl, fa.2⟩)
/-- return of an owned name -/
theorem s_retO (hk : Δ[i]? = some (.own .l true)) : SS K W .l Δ Δn Δb Δc (tRet (tVar i)) (gRet (gVar i)) := fun f ρ σ H E r q => by
  obtain ⟨p, d, h1, h2, h3, h4⟩ := r.ow i .l true hk
  unfold gRet gVar at q
  rw [h2, bnd_ok] at q
  exact ⟨_, h1, q p H h3 r.ext (h4.map (fun _ e => e) fun _ _ y => y.weak fun a fa => ⟨fa.2 rfl, fun z => (fa.1 rfl).1 (z ▸ ⟨i, .l, true, hk, h1⟩)⟩)⟩
def gPurV (i : Nat) : Gd := gPurN (gVar i)
theorem s_retOp (hk : Δ[i]? = some (.own .l fr)) : SS K W .l Δ Δn Δb Δc (tRet (tVar i)) (gRet (gPurV i)) := fun f ρ σ H E r q => by
  obtain ⟨p, d, h1, h2, h3, vs, ds, ed, h4, h5⟩ := r.ow i .l fr hk
  subst ed
  unfold gRet gPurV gPurN gVar at q
  rw [h2] at q
  have q : PoS K W .l f Δn Δb Δc (bnd (if pureIn (.list ds) = true then O.ok (PyData.list ds) else O.bad) fun d => O.ok (Fl.rt d)) E := q
  by_cases pp : pureIn (.list ds) = true
  · rw [if_pos pp] at q
    exact ⟨_, h1, q p H h3 r.ext ⟨vs, ds, rfl, h4, h5.pure pp⟩⟩
  · rw [if_neg pp] at q
    exact q.elim
theorem s_retN : SS K W .n Δ Δn Δb Δc tRetN gRetN := fun f ρ σ H E r q => q .non H r.ext .non
theorem s_drop {k : Rk} (h : SE K W Δ te k g) : SS K W L Δ Δ Δb Δc (tDrop te) (gDrop g) := fun f ρ σ H E r q => h f ρ σ H _ r <| by
  unfold gDrop at q
  cases e : g ρ with
  | bad => rw [e] at q; exact q
  | ex z => rw [e] at q; exact fun H' s => q σ H' (r.ext.trans s)
  | ok d =>
    rw [e] at q
    cases k with
    | v av fr => exact fun v H' s x => q σ H' (r.mono s)
    | o fr => exact fun p H' vs ds e s _ _ _ => q σ H' (r.mono s)
    | new c fr => exact fun p H' np s x => q σ H' (r.mono s)
theorem s_set (hi : i < Δ.length) (h : SE K W Δ te (.v true fr) g) : SS K W L Δ (Δ.set i (.im fr)) Δb Δc (tAsg te (gName i)) (gSet i g) := fun f ρ σ H E r q => h f ρ σ H _ r <| by
  unfold gSet at q
  cases e : g ρ with
  | bad => rw [e] at q; exact q
  | ex z => rw [e] at q; exact fun H' s => q σ H' (r.ext.trans s)
  | ok d =>
    rw [e] at q
    exact fun v H' s x => q _ H' ((r.mono s).setIm hi x)
theorem s_setO {c : Ct} (hi : i < Δ.length) (h : SE K W Δ te (.new c fr) g) (hc : isArg c = false := by rfl) : SS K W L Δ (Δ.set i (.own c fr)) Δb Δc (tAsg te (gName i)) (gSet i g) := fun f ρ σ H E r q => h f ρ σ H _ r <| by
  unfold gSet at q
  cases e : g ρ with
  | bad => rw [e] at q; exact q
  | ex z => rw [e] at q; exact fun H' s => q σ H' (r.ext.trans s)
  | ok d =>
    rw [e] at q
    exact fun p H' np s x => q _ H' (r.setOwn hi np s x hc)
theorem s_asg {gg : TG} {sl : List Nat} {n : Nat} {hh : Dt → List Dt → O (List Dt)} {TK : Bool → List Kd → List Kd} (hn : Δ.length = n) (h : SE K W Δ te (.v true fr) g) (hg : GJ K n gg sl hh TK) : SS K W L Δ (TK fr Δ) Δb Δc (tAsg te gg) (gAsg g hh) := fun f ρ σ H E r q => h f ρ σ H _ r <| by
  unfold gAsg at q
  cases e : g ρ with
  | bad => rw [e] at q; exact q
  | ex z => rw [e] at q; exact fun H' s => q σ H' (r.ext.trans s)
  | ok d =>
    rw [e, bnd_ok] at q
    intro v H' s x
    refine hg f Δ ρ σ H' v d fr _ hn (r.mono s) x ?_
    cases e2 : hh d ρ with
    | bad => rw [e2] at q; exact q.elim
    | ex z => rw [e2] at q; exact q.elim
    | ok ρ' =>
      rw [e2] at q
      exact fun σ' t => q σ' H' t.r
theorem s_par (hi : i < Δ.length) (hj : j < Δ.length) (h : SA K W Δ ta true fr gA) : SS K W L Δ ((Δ.set i (.im fr)).set j (.im fr)) Δb Δc (tPar i j ta) (gPar i j gA) := fun f ρ σ H E r q => h f ρ σ H _ r <| by
  unfold gPar at q
  cases e : gA ρ with
  | bad => rw [e] at q; exact q
  | ex z => rw [e] at q; exact fun H' s => q σ H' (r.ext.trans s)
  | ok ds =>
    rw [e, bnd_ok] at q
    intro vs H' s x
    match ds, x, q with
    | [], _, q => exact q.elim
    | [_], _, q => exact q.elim
    | [a, b], .cons x1 (.cons x2 .nil), q =>
      refine ⟨_, _, rfl, q _ H' ?_⟩
      have r1 := (r.mono s).setIm (fr := fr) hi x1
      refine r1.setIm (by rw [List.length_set]; exact hj) (x2.weak fun a fa => ⟨fun _ => ⟨fun z => (fa.1 rfl).1 ?_, (fa.1 rfl).2⟩, fa.2⟩)
      obtain ⟨k, c, frk, h1, h2⟩ := z
      by_cases z : i = k
      · subst z
        rw [List.getElem?_set_self hi] at h1
        cases h1
      · rw [List.getElem?_set_ne z] at h1 h2
        exact ⟨k, c, frk, h1, h2⟩
    | _ :: _ :: _ :: _, _, q => exact q.elim
theorem s_aug {hf : Int → Int → Int} (hk : Δ[i]? = some (.im fr)) (h : SE K W Δ te (.v av' fr') g) : SS K W L Δ (Δ.set i (.im true)) Δb Δc (tAug i te (ipI hf)) (gAug hf i g) := fun f ρ σ H E r q => by
  obtain ⟨v, d, h1, h2, h3⟩ := r.im i fr hk
  have hi : i < Δ.length := (List.getElem?_eq_some_iff.mp hk).1
  unfold gAug at q
  rw [h2] at q
  cases h3 with
  | int a =>
    refine ⟨_, h1, h f ρ σ H _ r ?_⟩
    simp only at q
    cases e : g ρ with
    | bad => rw [e] at q; exact q
    | ex z => rw [e] at q; exact fun H' s => q σ H' (r.ext.trans s)
    | ok d =>
      rw [e, bnd_ok] at q
      intro v H' s x
      cases d with
      | int b =>
        rw [rpInt x]
        exact ⟨a, b, rfl, rfl, q _ H' ((r.mono s).setIm hi (.int _))⟩
      | _ => exact q.elim
  | non => exact q.elim
  | bl => exact q.elim
  | str => exact q.elim
  | lst => exact q.elim
  | fz => exact q.elim
  | tup => exact q.elim
  | dic => exact q.elim
  | exn => exact q.elim
theorem s_app (hk : Δ[i]? = some (.own .l fr)) (h : SE K W Δ te (.v true fr') g) : SS K W L Δ (Δ.set i (.own .l (fr && fr'))) Δb Δc (tDrop (tBM K "list" rAppend (tVar i) (tCons te tNil))) (gApp i g) := fun f ρ σ H E r q => by
  obtain ⟨p, d, h1, h2, h3, vs, ds, ed, h4, h5⟩ := r.ow i .l fr hk
  subst ed
  unfold gApp at q
  rw [h2] at q
  simp only at q
  refine ⟨_, h1, .inl ⟨rfl, _, .inl (.inl h4)⟩, h f ρ σ H _ r ?_⟩
  cases e : g ρ with
  | bad => rw [e] at q; exact q
  | ex z => rw [e] at q; exact fun H' s => q σ H' (r.ext.trans s)
  | ok d =>
    rw [e, bnd_ok] at q
    intro v H1 s x
    by_cases hl : ds.length < 100000
    · rw [if_pos hl] at q
      have hp := s _ _ h4
      have hl2 : vs.length < sizeLine := by rw [h5.length]; exact Nat.lt_of_lt_of_le hl (by decide)
      refine ⟨p, vs, v, rfl, rfl, hp, hl2, q σ _ ?_⟩
      refine (r.mono s).updOwn hk h1 (c' := .l) (show Mutb (.lst _) from trivial) ⟨_, _, rfl, upd_same, ?_⟩
      have nf : ∀ {fr : Bool} (a : Addr), FM f Δ σ true fr a → a ≠ p := fun a fa z => (fa.1 rfl).1 (z ▸ ⟨i, .l, _, hk, h1⟩)
      exact (((h5.same s).updM hp trivial fun a fa => nf a fa).weak fun a y => y.weak id fun h => (Bool.and_eq_true_iff.mp h).1).append
        (.cons ((Rp.updM hp trivial (fun a fa => nf a fa) x).weak fun a y => y.weak id fun h => (Bool.and_eq_true_iff.mp h).2) .nil)
    · rw [if_neg hl] at q
      exact q.elim
theorem s_ext (hk : Δ[i]? = some (.own .l fr)) (h : SE K W Δ te (.new .l fr') g) : SS K W L Δ (Δ.set i (.own .l (fr && fr'))) Δb Δc (tDrop (tBM K "list" rExtend (tVar i) (tCons te tNil))) (gExt i g) := fun f ρ σ H E r q => by
  obtain ⟨p, d, h1, h2, h3, vs, ds, ed, h4, h5⟩ := r.ow i .l fr hk
  subst ed
  unfold gExt at q
  rw [h2] at q
  simp only at q
  refine ⟨_, h1, .inl ⟨rfl, _, .inl (.inl h4)⟩, h f ρ σ H _ r ?_⟩
  cases e : g ρ with
  | bad => rw [e] at q; exact q
  | ex z => rw [e] at q; exact fun H' s => q σ H' (r.ext.trans s)
  | ok d =>
    rw [e, bnd_ok] at q
    intro b H1 nb s x
    obtain ⟨ws, es, ed, hb, x⟩ := x
    subst ed
    simp only at q
    by_cases hl : ds.length + es.length ≤ 100000
    · rw [if_pos hl] at q
      have hp := s _ _ h4
      have hl2 : vs.length + ws.length ≤ sizeLine := by rw [h5.length, x.length]; exact sz_le hl
      refine ⟨p, b, vs, ws, rfl, rfl, hp, hb, hl2, q σ _ ?_⟩
      refine (r.mono s).updOwn hk h1 (c' := .l) (show Mutb (.lst _) from trivial) ⟨_, _, rfl, upd_same, ?_⟩
      have nf : ∀ {fr : Bool} (a : Addr), FM f Δ σ true fr a → a ≠ p := fun a fa z => (fa.1 rfl).1 (z ▸ ⟨i, .l, _, hk, h1⟩)
      exact (((h5.same s).updM hp trivial fun a fa => nf a fa).weak fun a y => y.weak id fun h => (Bool.and_eq_true_iff.mp h).1).append
        ((x.weak fun a y => y.1).updM hp trivial (fun a fa => nf a fa) |>.weak fun a y => y.weak id fun h => (Bool.and_eq_true_iff.mp h).2)
    · rw [if_neg hl] at q
      exact q.elim
theorem s_setI (hk : Δ[i]? = some (.own .l fr)) (h : SE K W Δ te (.v true fr') ge) (h2 : SE K W Δ ti (.v av av') gi) : SS K W L Δ (Δ.set i (.own .l (fr && fr'))) Δb Δc (tAsg te (gSub (tVar i) ti rSetL)) (gSetI i ge gi) := fun f ρ σ H E r q => h f ρ σ H _ r <| by
  obtain ⟨p, d, g1, g2, g3, vs, ds, ed, g4, g5⟩ := r.ow i .l fr hk
  subst ed
  unfold gSetI at q
  cases e : ge ρ with
  | bad => rw [e] at q; exact q
  | ex z => rw [e] at q; exact fun H' s => q σ H' (r.ext.trans s)
  | ok d =>
    rw [e, bnd_ok, g2] at q
    simp only at q
    intro v H1 s x
    refine ⟨_, g1, h2 f ρ σ H1 _ (r.mono s) ?_⟩
    cases e2 : gi ρ with
    | bad => rw [e2] at q; exact q
    | ex z => rw [e2] at q; exact fun H' s2 => q σ H' ((r.ext.trans s).trans s2)
    | ok k =>
      rw [e2, bnd_ok] at q
      intro kv H2 s2 xk
      cases k with
      | int k =>
        simp only at q
        cases ej : ixN ds.length k with
        | none => rw [ej] at q; exact q.elim
        | some j =>
          rw [ej] at q
          rw [rpInt xk]
          have s12 := s.trans s2
          have hp := s12 _ _ g4
          refine ⟨p, vs, k, j, rfl, rfl, hp, by rw [g5.length]; exact ej, q σ _ ?_⟩
          refine (r.mono s12).updOwn hk g1 (c' := .l) (show Mutb (.lst _) from trivial) ⟨_, _, rfl, upd_same, ?_⟩
          have nf : ∀ {fr : Bool} (a : Addr), FM f Δ σ true fr a → a ≠ p := fun a fa z => (fa.1 rfl).1 (z ▸ ⟨i, .l, _, hk, g1⟩)
          exact RpA.set ((Rp.updM hp trivial (fun a fa => nf a fa) (x.same s2)).weak fun a y => y.weak id fun h => (Bool.and_eq_true_iff.mp h).2) j
            (((g5.same s12).updM hp trivial fun a fa => nf a fa).weak fun a y => y.weak id fun h => (Bool.and_eq_true_iff.mp h).1)
      | _ => exact q.elim
theorem s_if (h : ST K W Δ tt gt) (h1 : SS K W L Δ Δn Δb Δc t ga) (h2 : SS K W L Δ Δn Δb Δc u gb) : SS K W L Δ Δn Δb Δc (tIfS tt t u) (gIfS gt ga gb) := fun f ρ σ H E r q => h f ρ σ H _ r <| by
  unfold gIfS at q
  cases e : gt ρ with
  | bad => rw [e] at q; exact q
  | ex z => rw [e] at q; exact fun H' s => q σ H' (r.ext.trans s)
  | ok c =>
    rw [e, bnd_ok] at q
    intro H1 s
    cases c with
    | true => exact h1 f ρ σ H1 E (r.mono s) q
    | false => exact h2 f ρ σ H1 E (r.mono s) q
theorem s_brk : SS K W L Δ Δn Δ Δc tBreak (fun ρ => .ok (.bk ρ)) := fun f ρ σ H E r q => q σ H r
theorem s_cont : SS K W L Δ Δn Δb Δ tCont (fun ρ => .ok (.ct ρ)) := fun f ρ σ H E r q => q σ H r
theorem s_while (n : Nat) (h : ST K W Δ tt gt) (hb : SS K W L Δ Δ Δ Δ t gb) : SS K W L Δ Δ Δb Δc (tWhile tt t) (gWhile gt gb n) := fun f ρ σ H E r q => by
  refine ⟨fun m σ H => ∃ ρ, R K f Δ ρ σ H ∧ PoS K W L f Δ Δb Δc (gWhile gt gb m ρ) E, ⟨n, ρ, r, q⟩, ?_⟩
  rintro m σ1 H1 ⟨ρ1, r1, q1⟩
  cases m with
  | zero => exact q1.elim
  | succ m =>
    refine h f ρ1 σ1 H1 _ r1 ?_
    unfold gWhile at q1
    cases e : gt ρ1 with
    | bad => rw [e] at q1; exact q1
    | ex z => rw [e] at q1; exact fun H' s => q1 σ1 H' (r1.ext.trans s)
    | ok c =>
      rw [e, bnd_ok] at q1
      intro H2 s2
      cases c with
      | false => exact q1 σ1 H2 (r1.mono s2)
      | true =>
        show (if true = true then _ else _)
        rw [if_pos rfl]
        refine ⟨fun σ' H' => ∃ ρ', R K f Δ ρ' σ' H' ∧ PoS K W L f Δ Δb Δc (gWhile gt gb m ρ') E, fun σ' H' w => ⟨m, Nat.lt_succ_self m, w⟩, hb f ρ1 σ1 H2 _ (r1.mono s2) ?_⟩
        have q1 : PoS K W L f Δ Δb Δc (bnd (gb ρ1) fun fl => match fl with | .nx ρ' => gWhile gt gb m ρ' | .ct ρ' => gWhile gt gb m ρ' | .bk ρ' => .ok (.nx ρ') | .rt d => .ok (.rt d)) E := q1
        cases e2 : gb ρ1 with
        | bad => rw [e2] at q1; exact q1
        | ex z => rw [e2] at q1; exact q1
        | ok fl =>
          rw [e2, bnd_ok] at q1
          cases fl with
          | nx ρ' => exact fun σ' H' r' => ⟨ρ', r', q1⟩
          | ct ρ' => exact fun σ' H' r' => ⟨ρ', r', q1⟩
          | bk ρ' => exact q1
          | rt d => exact q1
theorem PoS.toG {f : Fm} {gg : List V × List Dt × Bool} {o : O Fl} {E : Ends} (q : PoS K W L f Δn Δb Δc o E) : PoS K W L { f with Γ := gg :: f.Γ } Δn Δb Δc o E := by
  cases o with
  | bad => exact q
  | ex z => exact q
  | ok fl =>
    cases fl with
    | nx ρ => exact fun σ' H' r => q σ' H' r.dropG
    | rt d => exact q
    | bk ρ => exact fun σ' H' r => q σ' H' r.dropG
    | ct ρ => exact fun σ' H' r => q σ' H' r.dropG
theorem s_for {wi : TI} {gg : TG} {sl : List Nat} {n : Nat} {hh : Dt → List Dt → O (List Dt)} {TK : Bool → List Kd → List Kd} {gI : List Dt → O (List Dt)} (hn : Δ.length = n) (h : SI K W Δ wi false fr gI) (hg : GJ K n gg sl hh TK) (hb : SS K W L (TK fr Δ) Δ Δ Δ t gb) :
    SS K W L Δ Δ Δb Δc (tFor wi gg t) (gFor gI hh gb) := fun f ρ σ H E r q => h f ρ σ H _ r <| by
  unfold gFor at q
  cases e : gI ρ with
  | bad => rw [e] at q; exact q
  | ex z => rw [e] at q; exact fun H' s => q σ H' (r.ext.trans s)
  | ok ds =>
    rw [e, bnd_ok] at q
    intro J H1 pf vs es s1 hpf _ x sc
    have hpf := hpf rfl
    subst hpf
    have r1 := (r.mono s1).addG (fr := fr) x
    have q1 := q.toG (gg := (vs, es, fr))
    generalize hf1 : ({ f with Γ := (vs, es, fr) :: f.Γ } : Fm) = f1 at r1 q1
    have gG : (vs, es, fr) ∈ f1.Γ := by rw [← hf1]; exact List.mem_cons_self
    refine ⟨fun i m σ H => m = ds.length - i ∧ i ≤ ds.length ∧ ∃ ρ, R K f1 Δ ρ σ H ∧ PoS K W L f1 Δ Δb Δc (forE hh gb (ds.drop i) ρ) E, ⟨ds.length, by simp, Nat.zero_le _, ρ, r1, q1⟩, ?_⟩
    rintro i m σ2 H2 ⟨rfl, hi, ρ2, r2, q2⟩
    have stand : (∀ q, (none : Option (Addr × HO)) = some q → H2 q.1 = some q.2) ∧ ∃ F, RpA K F H2 vs es := ⟨fun _ e => (nomatch e), _, r2.gh _ gG⟩
    by_cases hlt : i < ds.length
    · refine .inr ⟨sc.goes i H2 hlt stand, fun σ' H' => i + 1 ≤ ds.length ∧ ∃ ρ, R K f1 Δ ρ σ' H' ∧ PoS K W L f1 Δ Δb Δc (forE hh gb (ds.drop (i + 1)) ρ) E, fun σ' H' w => ⟨ds.length - (i + 1), by omega, rfl, w⟩, fun x H3 hy => ?_⟩
      obtain ⟨s3, hx⟩ := sc.yields i H2 x H3 hlt stand hy
      obtain ⟨d, hd, x3⟩ := hx _ (r2.gh _ gG)
      have edrop : ds.drop i = d :: ds.drop (i + 1) := by
        have hd' := (List.getElem?_eq_some_iff.mp hd).2
        rw [List.drop_eq_getElem_cons hlt, hd']
      rw [edrop] at q2
      unfold forE at q2
      refine hg f1 Δ ρ2 σ2 H3 x d fr _ hn (r2.mono s3) x3 ?_
      cases eh : hh d ρ2 with
      | bad => rw [eh] at q2; exact q2.elim
      | ex z => rw [eh] at q2; exact q2.elim
      | ok ρ3 =>
        rw [eh] at q2
        simp only at q2
        intro σ4 t4
        refine hb f1 ρ3 σ4 H3 _ t4.r ?_
        cases e2 : gb ρ3 with
        | bad => rw [e2] at q2; exact q2
        | ex z => rw [e2] at q2; exact q2
        | ok fl =>
          rw [e2, bnd_ok] at q2
          cases fl with
          | nx ρ' => exact fun σ' H' r' => ⟨hlt, ρ', r', q2⟩
          | ct ρ' => exact fun σ' H' r' => ⟨hlt, ρ', r', q2⟩
          | bk ρ' => exact q2
          | rt d => exact q2
    · have ei : i = ds.length := by omega
      subst ei
      rw [List.drop_length] at q2
      exact .inl ⟨sc.stops H2 stand, q2 σ2 H2 r2⟩
end

/-! ### promises, calls -/
def Wcls (mg : Str → Option Value) (e : Exn) (E : XK) (H' : Hp) : Prop := ∀ C, mg e.cls = some (.ref C) → match e.arg with
  | none => E (.ref C) none H'
  | some m => ∀ d, H' d = some (.xd [("moment", .int m)]) → E (.ref C) (some d) H'
def spG (K : PySem.W.Frag) (mg : Str → Option Value) (n : Nat) (g : List Dt → O Dt) : Sp := fun vs H Q E => ∃ ds, vs.length = n ∧ RpA K (fun _ => True) H vs ds ∧ (match g ds with
  | .bad => False
  | .ex e => ∀ H', Same H H' → Wcls mg e E H'
  | .ok d => ∀ v H', Same H H' → Rp K (fun a => H a = none) H' v d → Q v H')
/-- what is told may hold what was handed in -/
def spA (K : PySem.W.Frag) (mg : Str → Option Value) (n : Nat) (g : List Dt → O Dt) : Sp := fun vs H Q E => ∃ ds F, vs.length = n ∧ RpA K F H vs ds ∧ (match g ds with
  | .bad => False
  | .ex e => ∀ H', Same H H' → Wcls mg e E H'
  | .ok d => ∀ v H', Same H H' → Rp K (fun a => F a ∨ H a = none) H' v d → Q v H')
/-- a new list is told -/
def spL (K : PySem.W.Frag) (mg : Str → Option Value) (n : Nat) (g : List Dt → O Dt) : Sp := fun vs H Q E => ∃ ds, vs.length = n ∧ RpA K (fun _ => True) H vs ds ∧ (match g ds with
  | .bad => False
  | .ex e => ∀ H', Same H H' → Wcls mg e E H'
  | .ok d => ∀ p H', H p = none → Same H H' → OwC K .l (fun a => H a = none ∧ a ≠ p) H' p d → Q (.ref p) H')
def gCallN (n : Nat) (g : List Dt → O Dt) (gA : List Dt → O (List Dt)) : Gd := fun ρ => bnd (gA ρ) fun ds => if ds.length = n then (match g ds with
  | .ok d => .ok d
  | _ => .bad) else .bad
section
variable {K : PySem.W.Frag} {W : Wt} {Δ : List Kd} {ta : TA} {gA : List Dt → O (List Dt)} {av fr : Bool} {mg : Str → Option Value} {n : Nat} {g : List Dt → O Dt}
theorem se_callN (h : SA K W Δ ta av fr gA) : SE K W Δ (tCall (spG K mg n g) [] E0 ta) (.v true true) (gCallN n g gA) := fun f ρ σ H Q r q => h f ρ σ H _ r <| by
  unfold gCallN at q
  cases e : gA ρ with
  | bad => rw [e] at q; exact q
  | ex z => rw [e] at q; exact q
  | ok ds =>
    rw [e, bnd_ok] at q
    intro vs H1 s1 x1
    by_cases hn : ds.length = n
    · rw [if_pos hn] at q
      rw [List.append_nil]
      refine ⟨ds, by rw [x1.length]; exact hn, x1.weak fun _ _ => trivial, ?_⟩
      cases e2 : g ds with
      | bad => rw [e2] at q; exact q.elim
      | ex z => rw [e2] at q; exact q.elim
      | ok d =>
        rw [e2] at q
        intro v H2 s2 x2
        refine q v H2 (s1.trans s2) (x2.weak fun a na => ?_)
        obtain ⟨f1, f2, f3⟩ := (r.mono s1).fresh na
        exact ⟨fun _ => ⟨f1, f2⟩, fun _ => r.g0 a f3⟩
    · rw [if_neg hn] at q
      exact q.elim
theorem se_callL (h : SA K W Δ ta av fr gA) : SE K W Δ (tCall (spL K mg n g) [] E0 ta) (.new .l true) (gCallN n g gA) := fun f ρ σ H Q r q => h f ρ σ H _ r <| by
  unfold gCallN at q
  cases e : gA ρ with
  | bad => rw [e] at q; exact q
  | ex z => rw [e] at q; exact q
  | ok ds =>
    rw [e, bnd_ok] at q
    intro vs H1 s1 x1
    by_cases hn : ds.length = n
    · rw [if_pos hn] at q
      rw [List.append_nil]
      refine ⟨ds, by rw [x1.length]; exact hn, x1.weak fun _ _ => trivial, ?_⟩
      cases e2 : g ds with
      | bad => rw [e2] at q; exact q.elim
      | ex z => rw [e2] at q; exact q.elim
      | ok d =>
        rw [e2] at q
        intro p H2 np s2 x2
        refine q p H2 (s1.free np) (s1.trans s2) (x2.map (fun _ e => e) fun _ _ y => y.weak fun a na => ?_)
        obtain ⟨f1, f2, f3⟩ := (r.mono s1).fresh na.1
        exact ⟨⟨fun _ => ⟨f1, f2⟩, fun _ => r.g0 a f3⟩, na.2⟩
    · rw [if_neg hn] at q
      exact q.elim
theorem se_callA (h : SA K W Δ ta av fr gA) : SE K W Δ (tCall (spA K mg n g) [] E0 ta) (.v av fr) (gCallN n g gA) := fun f ρ σ H Q r q => h f ρ σ H _ r <| by
  unfold gCallN at q
  cases e : gA ρ with
  | bad => rw [e] at q; exact q
  | ex z => rw [e] at q; exact q
  | ok ds =>
    rw [e, bnd_ok] at q
    intro vs H1 s1 x1
    by_cases hn : ds.length = n
    · rw [if_pos hn] at q
      rw [List.append_nil]
      refine ⟨ds, _, by rw [x1.length]; exact hn, x1, ?_⟩
      cases e2 : g ds with
      | bad => rw [e2] at q; exact q.elim
      | ex z => rw [e2] at q; exact q.elim
      | ok d =>
        rw [e2] at q
        intro v H2 s2 x2
        refine q v H2 (s1.trans s2) (x2.weak fun a na => ?_)
        rcases na with na | na
        · exact na
        · obtain ⟨f1, f2, f3⟩ := (r.mono s1).fresh na
          exact ⟨fun _ => ⟨f1, f2⟩, fun _ => r.g0 a f3⟩
    · rw [if_neg hn] at q
      exact q.elim
end
end Sim
end T_SimF

section T_SimG
set_option Elab.async false
set_option linter.all false
set_option maxRecDepth 100000
/-! SimG: the rules for a text: subscripts, walks, comprehensions, calls, statements, defs. -/
namespace Sim
open PySem PySem.Spec L2
open PyProof.Rows hiding St

section
variable {X : Cx} {K : PySem.W.Frag} {W : Wt} {Δ Δ1 Δn Δb Δc : List Kd} {a b c e elt tg iter : Expr} {es ifs : List Expr} {ta tb tc te : TE} {tt tu : TT} {tA : TA} {ga gb gc g ge gi : Gd} {gt gu : List Dt → O Bool} {gA gI : List Dt → O (List Dt)} {k k1 k2 : Rk} {av fr av' fr' : Bool} {L : Lk} {pos : Pos} {t u : TS} {g1 g2 : Gs}

/-! subscripts, slices -/
theorem x_ix (ha : PD X K W Δ a ta (.v av fr) ga) (hb : PD X K W Δ b tb (.v av' fr') gb) (hs : PlainIx b := by exact fun _ _ => rfl) : PD X K W Δ (.Subscript a b pos) (tOp (rIx K) ta tb) (.v av fr) (gOp hIx ga gb) :=
  ⟨pe_ix (by have q := ix_seq (X := X); rw [ha.hK] at q; exact q) ha.pe hb.pe hs, ha.hK, se_ix ha.se hb.se⟩
theorem x_ixO (ha : PD X K W Δ a ta (.o fr) ga) (hb : PD X K W Δ b tb (.v av' fr') gb) (hs : PlainIx b := by exact fun _ _ => rfl) : PD X K W Δ (.Subscript a b pos) (tOp (rIx K) ta tb) (.v true fr) (gOp hIx ga gb) :=
  ⟨pe_ix (by have q := ix_seq (X := X); rw [ha.hK] at q; exact q) ha.pe hb.pe hs, ha.hK, se_ixO ha.se hb.se⟩
structure OD (X : Cx) (K : PySem.W.Frag) (W : Wt) (Δ : List Kd) (e : Option Expr) (to : TOp) (g : List Dt → O (Option Int)) : Prop where
  po : PO X e to
  so : SO K W Δ to g
theorem o_none : OD X K W Δ none tNoPart gNoPart := ⟨po_none, so_none⟩
theorem o_some (h : PD X K W Δ e te (.v av fr) g) : OD X K W Δ (some e) (tPart te) (gPart g) := ⟨po_some h.pe, so_some h.se⟩
theorem x_sl {lo hi : Option Expr} {tl th : TOp} {gl gh : List Dt → O (Option Int)} {p2 : Pos} (h : PD X K W Δ e te (.v true fr) g) (h1 : OD X K W Δ lo tl gl) (h2 : OD X K W Δ hi th gh) : PD X K W Δ (.Subscript e (.Slice lo hi none p2) pos) (tSl (rSlL K) te tl th) (.new .l fr) (gSl hSl g gl gh) :=
  ⟨pe_slice (by have q := sl_list (X := X); rw [h.hK] at q; exact q) h.pe h1.po h2.po, h.hK, se_sl h.se h1.so h2.so⟩
theorem x_slO {lo hi : Option Expr} {tl th : TOp} {gl gh : List Dt → O (Option Int)} {p2 : Pos} (h : PD X K W Δ e te (.o fr) g) (h1 : OD X K W Δ lo tl gl) (h2 : OD X K W Δ hi th gh) : PD X K W Δ (.Subscript e (.Slice lo hi none p2) pos) (tSl (rSlL K) te tl th) (.new .l fr) (gSl hSl g gl gh) :=
  ⟨pe_slice (by have q := sl_list (X := X); rw [h.hK] at q; exact q) h.pe h1.po h2.po, h.hK, se_slO h.se h1.so h2.so⟩
theorem x_slT {lo hi : Option Expr} {tl th : TOp} {gl gh : List Dt → O (Option Int)} {p2 : Pos} (h : PD X K W Δ e te (.v av fr) g) (h1 : OD X K W Δ lo tl gl) (h2 : OD X K W Δ hi th gh) : PD X K W Δ (.Subscript e (.Slice lo hi none p2) pos) (tSl (rSlA K) te tl th) (.v av fr) (gSl hSlT g gl gh) :=
  ⟨pe_slice (by have q := sl_tupA (X := X); rw [h.hK] at q; exact q) h.pe h1.po h2.po, h.hK, se_slT h.se h1.so h2.so⟩

/-! list + list, list * int -/
theorem x_cat (ha : PD X K W Δ a ta (.v true fr) ga) (hb : PD X K W Δ b tb (.v true fr') gb) : PD X K W Δ (.BinOp a .Add b pos) (tOp (rCatS K) ta tb) (.new .l (fr && fr')) (gOp hCat ga gb) :=
  ⟨pe_op (by have q := op_catS (X := X); rw [ha.hK] at q; exact q) ha.pe hb.pe, ha.hK, se_cat ha.se hb.se⟩
theorem x_catO (ha : PD X K W Δ a ta (.o fr) ga) (hb : PD X K W Δ b tb (.v true fr') gb) : PD X K W Δ (.BinOp a .Add b pos) (tOp (rCatS K) ta tb) (.new .l (fr && fr')) (gOp hCat ga gb) :=
  ⟨pe_op (by have q := op_catS (X := X); rw [ha.hK] at q; exact q) ha.pe hb.pe, ha.hK, se_catO ha.se hb.se⟩
theorem x_rep (ha : PD X K W Δ a ta (.new .l fr) ga) (hb : PD X K W Δ b tb (.v av' fr') gb) : PD X K W Δ (.BinOp a .Mult b pos) (tOp rRep ta tb) (.new .l fr) (gOp hRep ga gb) := ⟨pe_op op_rep ha.pe hb.pe, ha.hK, se_rep ha.se hb.se⟩

/-! list(x), tuple(x), sorted(x) -/
theorem x_list {x : Str} {p : Pos} (hm : X.mg x = none) (h : AD X K W Δ (e :: es) tA true fr gA) (hv : bootBuiltins x = some (.type "list") := by decide +kernel) (hg : Gl X x := by rfl) (hn : x ≠ "__name__" := by decide) (hdb : (x == ("__debug__" : Str)) = false := by decide)
    (he : starEach (e :: es) X.env = (false, eval e X.env) :: starEach es X.env := by rfl) (hpl : (backTo pos (starEach es X.env)).any (·.1) = false := by rfl) :
    PD X K W Δ (.Call (.Name x p) (e :: es) [] pos) (tCB (rListOf K) tA) (.new .l fr) (gCB (one hListOf) gA) :=
  ⟨pe_callTy (by have q := call_list_of (X := X); rw [h.hK] at q; exact q) hg hm hv h.pa hn hdb he hpl, h.hK, se_listOf h.sa⟩
theorem x_listO {x : Str} {p : Pos} (hm : X.mg x = none) (h : PD X K W Δ e te (.o fr) g) (hv : bootBuiltins x = some (.type "list") := by decide +kernel) (hg : Gl X x := by rfl) (hn : x ≠ "__name__" := by decide) (hdb : (x == ("__debug__" : Str)) = false := by decide)
    (he : starEach [e] X.env = (false, eval e X.env) :: starEach [] X.env := by rfl) (hpl : (backTo pos (starEach [] X.env)).any (·.1) = false := by rfl) :
    PD X K W Δ (.Call (.Name x p) [e] [] pos) (tCB (rListOf K) (tCons te tNil)) (.new .l fr) (gCB (one hListOf) (gCons g gNil)) :=
  ⟨pe_callTy (by have q := call_list_of (X := X); rw [h.hK] at q; exact q) hg hm hv (pa_cons h.pe pa_nil he) hn hdb he hpl, h.hK, se_listOwn h.se⟩
theorem x_tuple {x : Str} {p : Pos} (hm : X.mg x = none) (h : AD X K W Δ (e :: es) tA av fr gA) (hv : bootBuiltins x = some (.type "tuple") := by decide +kernel) (hg : Gl X x := by rfl) (hn : x ≠ "__name__" := by decide) (hdb : (x == ("__debug__" : Str)) = false := by decide)
    (he : starEach (e :: es) X.env = (false, eval e X.env) :: starEach es X.env := by rfl) (hpl : (backTo pos (starEach es X.env)).any (·.1) = false := by rfl) :
    PD X K W Δ (.Call (.Name x p) (e :: es) [] pos) (tCB (fun xs H Q => ∃ p ys, xs = [.ref p] ∧ ((SqL K H p ys ∧ ∀ l, H l = none → Q (.ref l) (upd H l (.tup ys))) ∨ (SqT K H p ys ∧ Q (.ref p) H))) tA) (.v av fr) (gCB (one hTupOf) gA) :=
  ⟨pe_callTy (by have q := call_tuple_of (X := X); rw [h.hK] at q; exact q) hg hm hv h.pa hn hdb he hpl, h.hK, se_tupOf h.sa⟩
theorem x_sorted {x : Str} {p : Pos} (hm : X.mg x = none) (h : AD X K W Δ (e :: es) tA av fr gA) (hv : bootBuiltins x = some (.builtin "sorted") := by decide +kernel) (hg : Gl X x := by rfl) (hn : x ≠ "__name__" := by decide) (hdb : (x == ("__debug__" : Str)) = false := by decide)
    (he : starEach (e :: es) X.env = (false, eval e X.env) :: starEach es X.env := by rfl) (hpl : (backTo pos (starEach es X.env)).any (·.1) = false := by rfl) :
    PD X K W Δ (.Call (.Name x p) (e :: es) [] pos) (tCB (rSortedI K) tA) (.new .l true) (gCB (one hSorted) gA) :=
  ⟨pe_callB (by have q := cr_sortedI (X := X); rw [h.hK] at q; exact q) hg hm hv h.pa hn hdb he hpl, h.hK, se_sorted h.sa⟩

/-! what is walked -/
theorem i_seq (h : PD X K W Δ e te (.v true fr) g) : ID X K W Δ tg e (iSeq K te) false fr (gSeq g) := ⟨by have q := pi_seq (tg := tg) h.pe; rw [h.hK] at q; exact q, h.hK, si_seq h.se⟩
theorem i_own (h : PD X K W Δ e te (.o fr) g) : ID X K W Δ tg e (iSeq K te) true fr (gSeq g) := ⟨by have q := pi_seq (tg := tg) h.pe; rw [h.hK] at q; exact q, h.hK, si_own h.se⟩
theorem i_rng1 {p : Pos} (hm : X.mg "range" = none) (h : AD X K W Δ [a] tA av fr gA) (hg : Gl X "range" := by rfl) (hs : starEach [a] X.env = [(false, eval a X.env)] := by rfl) : ID X K W Δ tg (.Call (.Name "range" p) [a] [] pos) (iRng1 tA) false true (gRng1 gA) := ⟨pi_range1 hg hm h.pa hs, h.hK, si_rng1 h.sa⟩
theorem i_rng2 {p : Pos} (hm : X.mg "range" = none) (h : AD X K W Δ [a, b] tA av fr gA) (hg : Gl X "range" := by rfl) (hs : starEach [a, b] X.env = [(false, eval a X.env), (false, eval b X.env)] := by rfl) (hs2 : starEach [b] X.env = [(false, eval b X.env)] := by rfl) :
    ID X K W Δ tg (.Call (.Name "range" p) [a, b] [] pos) (iRng2 tA) false true (gRng2 gA) := ⟨pi_range2 hg hm h.pa hs hs2, h.hK, si_rng2 h.sa⟩

/-! targets -/
theorem g_tup {n m kk : Nat} {gs : TGs} {sl : List Nat} {u : List Dt → List Dt → O (List Dt)} {T : Bool → List Kd → List Kd} (hc : X.calm = true) (h : GDs X K n es gs sl u T) (hm : ∀ ds ρ, ds.length ≠ m → ∀ z, u ds ρ ≠ .ok z) (hl : (assignEach es X.env).length = m := by rfl) (hst : List.findIdx? (fun x => x.fst) (assignEach es X.env) = none := by rfl) :
    GD X K n (.Tuple es kk pos) (L2.gTup K m gs) sl (tgT u) T := ⟨by have q := pg_tup (X := X) (k := kk) (n := m) (pos := pos) hc h.pg hl hst; rw [h.hK] at q; exact q, h.hK, gj_tup h.gj hm⟩

/-! comprehensions -/
structure TsD (X : Cx) (K : PySem.W.Frag) (Δ : List Kd) (ifs : List Expr) (tt : TT) (g : List Dt → O Bool) : Prop where
  pts : PTs X ifs tt
  st : ST K W0 Δ tt g
theorem t_nil : TsD X K Δ [] tYes gYes := ⟨pts_nil, fun f ρ σ H Q r q => q H (Same.refl H)⟩
theorem t_one (h : TD X K W0 Δ c tt gt) : TsD X K Δ [c] tt gt := ⟨pts_one h.pt, h.st⟩

theorem x_lc {n : Nat} {scope : Scope} (own : List (Str × Nat)) {wi : TI} {gg : TG} {sl : List Nat} {hh : Dt → List Dt → O (List Dt)} {TK : Bool → List Kd → List Kd} {bb : Bool} (hN : X.N.Nodup) (hi : ID X K W Δ tg iter wi bb fr gI) (ok : blkC X.N X.env.scope scope own = true)
    (hg : ∀ (s : Shared) (H : Hp) (C : Addr) (cl : List (Str × Addr)) (fp : List Addr), GD (X.blk s H scope (compEnvC scope cl C X.env) fp) K n tg gg sl hh TK)
    (ht : ∀ (s : Shared) (H : Hp) (C : Addr) (cl : List (Str × Addr)) (fp : List Addr), TsD (X.blk s H scope (compEnvC scope cl C X.env) fp) K (TK fr (wipeK Δ (own.map (·.2)))) ifs tt gt)
    (he : ∀ (s : Shared) (H : Hp) (C : Addr) (cl : List (Str × Addr)) (fp : List Addr), PD (X.blk s H scope (compEnvC scope cl C X.env) fp) K W0 (TK fr (wipeK Δ (own.map (·.2)))) elt te (.v true fr') ge)
    (hn : Δ.length = n := by rfl) (hsl : ∀ i ∈ sl, i ∈ own.map (·.2) := by decide) (no : noOwn Δ (own.map (·.2)) = true := by rfl) (hc : X.calm = true := by rfl) (hs : ∀ x, foldedSetIterable iter X.env x = pure x := by intro _; rfl) :
    PD X K W Δ (.ListComp elt [⟨tg, iter, ifs, 0⟩] scope pos) (tLc wi gg tt te (own.map (·.2))) (.new .l fr') (gLc gI hh gt ge) :=
  ⟨pe_lc hc hN hi.pi (blkOk_by ok) (fun s H C cl fp => (hg s H C cl fp).pg) (fun s H C cl fp => (ht s H C cl fp).pts) (fun s H C cl fp => (he s H C cl fp).pe) hs, hi.hK,
    se_lc hi.si (hg X.s_0 X.H_0 0 [] []).gj hn hsl no (ht X.s_0 X.H_0 0 [] []).st (he X.s_0 X.H_0 0 [] []).se⟩

/-! calls -/
theorem x_callN {x : Str} {p : Pos} {CXT' : CXT} {kk nn : Nat} {fa : Addr} {fd : FuncData} {ps : List Str} {gg : List Dt → O Dt} {mg : Str → Option Value} (F : FnOk X.prog X.w X.K X.mg X.base CXT' kk fa fd ps (spG K mg nn gg)) (hr : Room kk X.A) (hm : X.mg x = some (.ref fa)) (hk : PySem.W.keepIn X.K (.ref fa) = true) (hb : Binds X.K fd ps [])
    (hx : Passes CXT' X E0) (h : AD X K W Δ (e :: es) tA av fr gA) (hg : Gl X x := by rfl) (hdb : (x == ("__debug__" : Str)) = false := by decide) (he : starEach (e :: es) X.env = (false, eval e X.env) :: starEach es X.env := by rfl) (hpl : (backTo pos (starEach es X.env)).any (·.1) = false := by rfl) :
    PD X K W Δ (.Call (.Name x p) (e :: es) [] pos) (tCall (spG K mg nn gg) [] E0 tA) (.v true true) (gCallN nn gg gA) := ⟨pe_call F hr hg hm hk hb .nil hx h.pa hdb he hpl, h.hK, se_callN h.sa⟩
theorem x_callL {x : Str} {p : Pos} {CXT' : CXT} {kk nn : Nat} {fa : Addr} {fd : FuncData} {ps : List Str} {gg : List Dt → O Dt} {mg : Str → Option Value} (F : FnOk X.prog X.w X.K X.mg X.base CXT' kk fa fd ps (spL K mg nn gg)) (hr : Room kk X.A) (hm : X.mg x = some (.ref fa)) (hk : PySem.W.keepIn X.K (.ref fa) = true) (hb : Binds X.K fd ps [])
    (hx : Passes CXT' X E0) (h : AD X K W Δ (e :: es) tA av fr gA) (hg : Gl X x := by rfl) (hdb : (x == ("__debug__" : Str)) = false := by decide) (he : starEach (e :: es) X.env = (false, eval e X.env) :: starEach es X.env := by rfl) (hpl : (backTo pos (starEach es X.env)).any (·.1) = false := by rfl) :
    PD X K W Δ (.Call (.Name x p) (e :: es) [] pos) (tCall (spL K mg nn gg) [] E0 tA) (.new .l true) (gCallN nn gg gA) := ⟨pe_call F hr hg hm hk hb .nil hx h.pa hdb he hpl, h.hK, se_callL h.sa⟩
theorem x_callA {x : Str} {p : Pos} {CXT' : CXT} {kk nn : Nat} {fa : Addr} {fd : FuncData} {ps : List Str} {gg : List Dt → O Dt} {mg : Str → Option Value} (F : FnOk X.prog X.w X.K X.mg X.base CXT' kk fa fd ps (spA K mg nn gg)) (hr : Room kk X.A) (hm : X.mg x = some (.ref fa)) (hk : PySem.W.keepIn X.K (.ref fa) = true) (hb : Binds X.K fd ps [])
    (hx : Passes CXT' X E0) (h : AD X K W Δ (e :: es) tA av fr gA) (hg : Gl X x := by rfl) (hdb : (x == ("__debug__" : Str)) = false := by decide) (he : starEach (e :: es) X.env = (false, eval e X.env) :: starEach es X.env := by rfl) (hpl : (backTo pos (starEach es X.env)).any (·.1) = false := by rfl) :
    PD X K W Δ (.Call (.Name x p) (e :: es) [] pos) (tCall (spA K mg nn gg) [] E0 tA) (.v av fr) (gCallN nn gg gA) := ⟨pe_call F hr hg hm hk hb .nil hx h.pa hdb he hpl, h.hK, se_callA h.sa⟩
end

/-! ### statements -/
structure SD (X : Cx) (K : PySem.W.Frag) (W : Wt) (L : Lk) (Δ Δn Δb Δc : List Kd) (st : Stmt) (ts : TS) (g : Gs) : Prop where
  ps : PS X st ts
  hK : X.K = K
  ss : SS K W L Δ Δn Δb Δc ts g
structure BD (X : Cx) (K : PySem.W.Frag) (W : Wt) (L : Lk) (Δ Δn Δb Δc : List Kd) (sts : List Stmt) (ts : TS) (g : Gs) : Prop where
  ps : PSs X sts ts
  hK : X.K = K
  ss : SS K W L Δ Δn Δb Δc ts g
section
variable {X : Cx} {K : PySem.W.Frag} {W : Wt} {Δ Δ1 Δ2 Δn Δb Δc : List Kd} {a b c e elt tg iter : Expr} {es ifs : List Expr} {ta tb tc te ti : TE} {tt tu : TT} {tA : TA} {ga gb gc g ge gi : Gd} {gt gu : List Dt → O Bool} {gA gI : List Dt → O (List Dt)} {k k1 k2 : Rk} {av fr av' fr' : Bool} {L : Lk} {pos pos' : Pos} {t u : TS} {g1 g2 : Gs} {st : Stmt} {sts sts2 : List Stmt}

theorem SD.pre (h : SD X K W L Δ1 Δn Δb Δc st t g1) (l : leA Δ Δ1 = true := by rfl) : SD X K W L Δ Δn Δb Δc st t g1 := ⟨h.ps, h.hK, h.ss.pre l⟩
theorem BD.post {Δn' Δb' Δc' : List Kd} (h : BD X K W L Δ Δn Δb Δc sts t g1) (ln : leA Δn Δn' = true := by rfl) (lb : leA Δb Δb' = true := by rfl) (lc : leA Δc Δc' = true := by rfl) : BD X K W L Δ Δn' Δb' Δc' sts t g1 := ⟨h.ps, h.hK, h.ss.post ln lb lc⟩
theorem b_nil (hK : X.K = K := by rfl) : BD X K W L Δ Δ Δb Δc [] tNext gNext := ⟨pss_nil, hK, s_next⟩
theorem b_one (h : SD X K W L Δ Δn Δb Δc st t g1) : BD X K W L Δ Δn Δb Δc [st] t g1 := ⟨pss_one h.ps, h.hK, h.ss⟩
theorem b_cons (h : SD X K W L Δ Δ1 Δb Δc st t g1) (h2 : BD X K W L Δ1 Δn Δb Δc sts u g2) : BD X K W L Δ Δn Δb Δc (st :: sts) (tSeq t u) (gSeqS g1 g2) := ⟨pss_cons h.ps h2.ps, h.hK, s_seq h.ss h2.ss⟩

theorem z_ret (h : PD X K W Δ e te (.v av true) g) : SD X K W .n Δ Δn Δb Δc (.Return (some e) pos) (tRet te) (gRet g) := ⟨ps_ret h.pe, h.hK, s_ret h.se⟩
theorem z_retL (h : PD X K W Δ e te (.new .l true) g) : SD X K W .l Δ Δn Δb Δc (.Return (some e) pos) (tRet te) (gRet g) := ⟨ps_ret h.pe, h.hK, s_retL h.se⟩
theorem z_retO (i : Nat) {x : Str} {p : Pos} (hk : Δ[i]? = some (.own .l true) := by rfl) (hN : X.N[i]? = some x := by rfl) (hv : Vis X.env.scope x := by first | exact Or.inl rfl | exact Or.inr (Or.inl rfl) | exact Or.inr (Or.inr rfl)) (hd : (x == ("__debug__" : Str)) = false := by decide)
    (hcd : (x == ("__classdict__" : Str)) = false := by decide) (hK : X.K = K := by rfl) : SD X K W .l Δ Δn Δb Δc (.Return (some (.Name x p)) pos) (tRet (tVar i)) (gRet (gVar i)) := ⟨ps_ret (pe_var hN hv hd hcd), hK, s_retO hk⟩
theorem z_retOp (i : Nat) {x : Str} {p : Pos} (hk : Δ[i]? = some (.own .l fr) := by rfl) (hN : X.N[i]? = some x := by rfl) (hv : Vis X.env.scope x := by first | exact Or.inl rfl | exact Or.inr (Or.inl rfl) | exact Or.inr (Or.inr rfl)) (hd : (x == ("__debug__" : Str)) = false := by decide)
    (hcd : (x == ("__classdict__" : Str)) = false := by decide) (hK : X.K = K := by rfl) : SD X K W .l Δ Δn Δb Δc (.Return (some (.Name x p)) pos) (tRet (tVar i)) (gRet (gPurV i)) := ⟨ps_ret (pe_var hN hv hd hcd), hK, s_retOp hk⟩
theorem z_expr (h : PD X K W Δ e te k g) (hs : swapsWith e none pos.line X.env = pure false := by rfl) : SD X K W L Δ Δ Δb Δc (.Expr e pos) (tDrop te) (gDrop g) := ⟨ps_expr h.pe hs, h.hK, s_drop h.se⟩
theorem z_set (i : Nat) {x : Str} (hN : X.N.Nodup) (h : PD X K W Δ e te (.v true fr) g) (hn : i < Δ.length := by decide) (hi : X.N[i]? = some x := by rfl) (hx : Loc X.env.scope x := by first | exact .inl rfl | exact .inr rfl) (hs : swapsWith e (some (.Name x pos')) pos.line X.env = pure false := by rfl) (hf : X.fn x = true ∨ X.env.scope.names.lookup x = some .local := by first | exact .inl rfl | exact .inr rfl) :
    SD X K W L Δ (Δ.set i (.im fr)) Δb Δc (.Assign [.Name x pos'] e pos) (tAsg te (gName i)) (gSet i g) := ⟨ps_set hN hi hx h.pe hs hf, h.hK, s_set hn h.se⟩
theorem z_setO (i : Nat) {x : Str} {ct : Ct} (hN : X.N.Nodup) (h : PD X K W Δ e te (.new ct fr) g) (hn : i < Δ.length := by decide) (hct : isArg ct = false := by rfl) (hi : X.N[i]? = some x := by rfl) (hx : Loc X.env.scope x := by first | exact .inl rfl | exact .inr rfl) (hs : swapsWith e (some (.Name x pos')) pos.line X.env = pure false := by rfl) (hf : X.fn x = true ∨ X.env.scope.names.lookup x = some .local := by first | exact .inl rfl | exact .inr rfl) :
    SD X K W L Δ (Δ.set i (.own ct fr)) Δb Δc (.Assign [.Name x pos'] e pos) (tAsg te (gName i)) (gSet i g) := ⟨ps_set hN hi hx h.pe hs hf, h.hK, s_setO hn h.se hct⟩
/-- y = [..] on one line, y a local -/
theorem z_setLc (i : Nat) {y : Str} {py : Pos} {n : Nat} {scope : Scope} (own : List (Str × Nat)) {wi : TI} {gg : TG} {sl : List Nat} {hh : Dt → List Dt → O (List Dt)} {TK : Bool → List Kd → List Kd} {bb : Bool} (hN : X.N.Nodup) (hi : ID X K W Δ tg iter wi bb fr gI) (ok : blkC X.N X.env.scope scope own = true)
    (hg : ∀ (s : Shared) (H : Hp) (C : Addr) (cl : List (Str × Addr)) (fp : List Addr), GD (X.blk s H scope (compEnvC scope cl C X.env) fp) K n tg gg sl hh TK)
    (ht : ∀ (s : Shared) (H : Hp) (C : Addr) (cl : List (Str × Addr)) (fp : List Addr), TsD (X.blk s H scope (compEnvC scope cl C X.env) fp) K (TK fr (wipeK Δ (own.map (·.2)))) ifs tt gt)
    (he : ∀ (s : Shared) (H : Hp) (C : Addr) (cl : List (Str × Addr)) (fp : List Addr), PD (X.blk s H scope (compEnvC scope cl C X.env) fp) K W0 (TK fr (wipeK Δ (own.map (·.2)))) elt te (.v true fr') ge)
    (hsw : swapsWith (.ListComp elt [⟨tg, iter, ifs, 0⟩] scope pos) (some (.Name y py)) pos'.line X.env = pure true) (hin : i < Δ.length := by decide) (hy : X.N[i]? = some y := by rfl) (hyl : X.env.scope.names.lookup y = some .local := by rfl)
    (hn : Δ.length = n := by rfl) (hsl : ∀ i ∈ sl, i ∈ own.map (·.2) := by decide) (no : noOwn Δ (own.map (·.2)) = true := by rfl) (hc : X.calm = true := by rfl) (hs : ∀ x, foldedSetIterable iter X.env x = pure x := by intro _; rfl) :
    SD X K W L Δ (Δ.set i (.own .l fr')) Δb Δc (.Assign [.Name y py] (.ListComp elt [⟨tg, iter, ifs, 0⟩] scope pos) pos') (tAsg (tLc wi gg tt te (own.map (·.2))) (gName i)) (gSet i (gLc gI hh gt ge)) :=
  ⟨ps_setLc hc hN hy hyl hsw hi.pi (blkOk_by ok) (fun s H C cl fp => (hg s H C cl fp).pg) (fun s H C cl fp => (ht s H C cl fp).pts) (fun s H C cl fp => (he s H C cl fp).pe) hs, hi.hK,
    s_setO hin (se_lc hi.si (hg X.s_0 X.H_0 0 [] []).gj hn hsl no (ht X.s_0 X.H_0 0 [] []).st (he X.s_0 X.H_0 0 [] []).se)⟩
theorem z_asg {n : Nat} {gg : TG} {sl : List Nat} {hh : Dt → List Dt → O (List Dt)} {TK : Bool → List Kd → List Kd} (h : PD X K W Δ e te (.v true fr) g) (hg : GD X K n tg gg sl hh TK) (hn : Δ.length = n := by rfl) (hs : swapsWithSole [tg] e pos.line X.env = pure false := by rfl) (hw : swappedStores [tg] e X.env = pure none := by rfl)
    (h1 : (assignEach [tg] X.env).map (·.2) = [assign tg X.env] := by rfl) : SD X K W L Δ (TK fr Δ) Δb Δc (.Assign [tg] e pos) (tAsg te gg) (gAsg g hh) := ⟨ps_asg h.pe hg.pg hs hw h1, h.hK, s_asg hn h.se hg.gj⟩
theorem z_par (i j : Nat) {x y : Str} {px py pt : Pos} {kt k2 : Nat} {pt2 : Pos} (hN : X.N.Nodup) (h : AD X K W Δ [a, b] tA true fr gA) (hij : i ≠ j := by decide) (hni : i < Δ.length := by decide) (hnj : j < Δ.length := by decide) (hi : X.N[i]? = some x := by rfl) (hj : X.N[j]? = some y := by rfl) (hx : X.env.scope.names.lookup x = some .local := by rfl) (hy : X.env.scope.names.lookup y = some .local := by rfl)
    (hw : swappedStores [.Tuple [.Name x px, .Name y py] kt pt] (.Tuple [a, b] k2 pt2) X.env = pure (some [x, y]) := by rfl) (hc : X.calm = true := by rfl) (hs : swapsWithSole [.Tuple [.Name x px, .Name y py] kt pt] (.Tuple [a, b] k2 pt2) pos.line X.env = pure false := by rfl) :
    SD X K W L Δ ((Δ.set i (.im fr)).set j (.im fr)) Δb Δc (.Assign [.Tuple [.Name x px, .Name y py] kt pt] (.Tuple [a, b] k2 pt2) pos) (tPar i j tA) (gPar i j gA) := ⟨ps_par hc hN hi hj hij hx hy h.pa hw hs, h.hK, s_par hni hnj h.sa⟩
theorem z_augA (i : Nat) {x : Str} (hN : X.N.Nodup) (h : PD X K W Δ e te (.v av' fr') g) (hk : Δ[i]? = some (.im fr) := by rfl) (hi : X.N[i]? = some x := by rfl) (hx : Loc X.env.scope x := by first | exact .inl rfl | exact .inr rfl) (hf : X.fn x = true ∨ X.env.scope.names.lookup x = some .local := by first | exact .inl rfl | exact .inr rfl) :
    SD X K W L Δ (Δ.set i (.im true)) Δb Δc (.AugAssign (.Name x pos') .Add e pos) (tAug i te (ipI fun i j => i + j)) (gAug (fun i j => i + j) i g) := ⟨ps_aug hN hi hx h.pe ip_add hf, h.hK, s_aug hk h.se⟩
theorem z_augS (i : Nat) {x : Str} (hN : X.N.Nodup) (h : PD X K W Δ e te (.v av' fr') g) (hk : Δ[i]? = some (.im fr) := by rfl) (hi : X.N[i]? = some x := by rfl) (hx : Loc X.env.scope x := by first | exact .inl rfl | exact .inr rfl) (hf : X.fn x = true ∨ X.env.scope.names.lookup x = some .local := by first | exact .inl rfl | exact .inr rfl) :
    SD X K W L Δ (Δ.set i (.im true)) Δb Δc (.AugAssign (.Name x pos') .Sub e pos) (tAug i te (ipI fun i j => i - j)) (gAug (fun i j => i - j) i g) := ⟨ps_aug hN hi hx h.pe ip_sub hf, h.hK, s_aug hk h.se⟩
theorem z_app (i : Nat) {x : Str} {p p1 p2 : Pos} (h : PD X K W Δ e te (.v true fr') g) (hk : Δ[i]? = some (.own .l fr) := by rfl) (hv : Vis X.env.scope x := by first | exact Or.inl rfl | exact Or.inr (Or.inl rfl) | exact Or.inr (Or.inr rfl)) (hN : X.N[i]? = some x := by rfl) (hd : (x == ("__debug__" : Str)) = false := by decide) (hcd : (x == ("__classdict__" : Str)) = false := by decide)
    (hbase : attributeBase (.Name x p) "append" X.env (eval (.Name x p) X.env) = eval (.Name x p) X.env := by rfl)
    (hfew : ((backTo p2 (starEach [e] X.env)).all (fun x => !x.1) && (backToKw p2 (keywordEach [] X.env)).all (fun x => x.1.isSome)
      && decide ([e].length + ([] : List Keyword).length + (if ([] : List Keyword).isEmpty then 0 else 1) < 30)) = true := by rfl)
    (hline : (p1.endLine == p2.line) = true := by rfl) (hst : starEach [e] X.env = (false, eval e X.env) :: starEach [] X.env := by rfl) (hplain : (backTo p2 (starEach [] X.env)).any (·.1) = false := by rfl)
    (hs : swapsWith (.Call (.Attribute (.Name x p) "append" p1) [e] [] p2) none pos.line X.env = pure false := by rfl) :
    SD X K W L Δ (Δ.set i (.own .l (fr && fr'))) Δb Δc (.Expr (.Call (.Attribute (.Name x p) "append" p1) [e] [] p2) pos) (tDrop (tBM K "list" rAppend (tVar i) (tCons te tNil))) (gApp i g) :=
  ⟨by have q := ps_expr (pos := pos) (pe_bm PySem.F.plainAttrs_list PySem.F.slot_list_append PySem.F.type_list_append mt_append (pe_var hN hv hd hcd) (pa_cons h.pe pa_nil hst) hbase hfew hline hst hplain) hs; rw [h.hK] at q; exact q, h.hK, s_app hk h.se⟩
theorem z_ext (i : Nat) {x : Str} {p p1 p2 : Pos} (h : PD X K W Δ e te (.new .l fr') g) (hk : Δ[i]? = some (.own .l fr) := by rfl) (hv : Vis X.env.scope x := by first | exact Or.inl rfl | exact Or.inr (Or.inl rfl) | exact Or.inr (Or.inr rfl)) (hN : X.N[i]? = some x := by rfl) (hd : (x == ("__debug__" : Str)) = false := by decide) (hcd : (x == ("__classdict__" : Str)) = false := by decide)
    (hbase : attributeBase (.Name x p) "extend" X.env (eval (.Name x p) X.env) = eval (.Name x p) X.env := by rfl)
    (hfew : ((backTo p2 (starEach [e] X.env)).all (fun x => !x.1) && (backToKw p2 (keywordEach [] X.env)).all (fun x => x.1.isSome)
      && decide ([e].length + ([] : List Keyword).length + (if ([] : List Keyword).isEmpty then 0 else 1) < 30)) = true := by rfl)
    (hline : (p1.endLine == p2.line) = true := by rfl) (hst : starEach [e] X.env = (false, eval e X.env) :: starEach [] X.env := by rfl) (hplain : (backTo p2 (starEach [] X.env)).any (·.1) = false := by rfl)
    (hs : swapsWith (.Call (.Attribute (.Name x p) "extend" p1) [e] [] p2) none pos.line X.env = pure false := by rfl) :
    SD X K W L Δ (Δ.set i (.own .l (fr && fr'))) Δb Δc (.Expr (.Call (.Attribute (.Name x p) "extend" p1) [e] [] p2) pos) (tDrop (tBM K "list" rExtend (tVar i) (tCons te tNil))) (gExt i g) :=
  ⟨by have q := ps_expr (pos := pos) (pe_bm PySem.F.plainAttrs_list PySem.F.slot_list_extend PySem.F.type_list_extend mt_extend (pe_var hN hv hd hcd) (pa_cons h.pe pa_nil hst) hbase hfew hline hst hplain) hs; rw [h.hK] at q; exact q, h.hK, s_ext hk h.se⟩
theorem z_setI (i : Nat) {x : Str} {p : Pos} {ix : Expr} {sp : Pos} (h : PD X K W Δ e te (.v true fr') ge) (h2 : PD X K W Δ ix ti (.v av av') gi) (hk : Δ[i]? = some (.own .l fr) := by rfl) (hv : Vis X.env.scope x := by first | exact Or.inl rfl | exact Or.inr (Or.inl rfl) | exact Or.inr (Or.inr rfl)) (hN : X.N[i]? = some x := by rfl) (hd : (x == ("__debug__" : Str)) = false := by decide) (hcd : (x == ("__classdict__" : Str)) = false := by decide)
    (ha : ∀ v, assign (.Subscript (.Name x p) ix sp) X.env v = (do
      let ov ← holding [v] (eval (.Name x p) X.env)
      let iv ← holding [v, ov] (eval ix X.env)
      standAt sp
      holding [v, ov, iv] (setItem ov iv v)
      release [v, ov, iv] []) := by intro _; rfl) (hs : swapsWithSole [.Subscript (.Name x p) ix sp] e pos.line X.env = pure false := by rfl) (hw : swappedStores [.Subscript (.Name x p) ix sp] e X.env = pure none := by rfl)
    (h1 : (assignEach [.Subscript (.Name x p) ix sp] X.env).map (·.2) = [assign (.Subscript (.Name x p) ix sp) X.env] := by rfl) :
    SD X K W L Δ (Δ.set i (.own .l (fr && fr'))) Δb Δc (.Assign [.Subscript (.Name x p) ix sp] e pos) (tAsg te (gSub (tVar i) ti rSetL)) (gSetI i ge gi) := ⟨ps_asg h.pe (pg_sub (pe_var hN hv hd hcd) h2.pe set_list ha) hs hw h1, h.hK, s_setI hk h.se h2.se⟩
theorem z_if (h : TD X K W Δ c tt gt) (h1 : BD X K W L Δ Δn Δb Δc sts t g1) (h2 : BD X K W L Δ Δn Δb Δc sts2 u g2) : SD X K W L Δ Δn Δb Δc (.If c sts sts2 pos) (tIfS tt t u) (gIfS gt g1 g2) := ⟨ps_if h.pt h1.ps h2.ps, h.hK, s_if h.st h1.ss h2.ss⟩
theorem z_pass (hK : X.K = K := by rfl) : SD X K W L Δ Δ Δb Δc (.Pass pos) tNext gNext := ⟨ps_pass, hK, s_next⟩
theorem z_while (n : Nat) (hp : PassesOwn (model X.prog X.w) X.A X.env X.xe) (h : TD X K W Δ c tt gt) (hb : BD X K W L Δ Δ Δ Δ sts t g1) : SD X K W L Δ Δ Δb Δc (.While c sts [] pos) (tWhile tt t) (gWhile gt g1 n) := ⟨ps_while hp h.pt hb.ps, h.hK, s_while n h.st hb.ss⟩
theorem z_for {n : Nat} {wi : TI} {gg : TG} {sl : List Nat} {hh : Dt → List Dt → O (List Dt)} {TK : Bool → List Kd → List Kd} (hp : PassesOwn (model X.prog X.w) X.A X.env X.xe) (hi : ID X K W Δ tg iter wi false fr gI) (hg : GD X K n tg gg sl hh TK) (hb : BD X K W L (TK fr Δ) Δ Δ Δ sts t g1) (hn : Δ.length = n := by rfl) (hc : X.calm = true := by rfl)
    (hs : ∀ x, foldedSetIterable iter X.env x = pure x := by intro _; rfl) : SD X K W L Δ Δ Δb Δc (.For tg iter sts [] pos) (tFor wi gg t) (gFor gI hh g1) := ⟨ps_for hp hc hi.pi hg.pg hb.ps hs, hi.hK, s_for hn hi.si hg.gj hb.ss⟩
end

/-! ### defs -/
def fnN (m : Nat) (g : Gs) : List Dt → O Dt := fun ds => match g (ds ++ List.replicate (m - ds.length) .none) with
  | .ok (.rt d) => .ok d
  | .ok (.nx _) => .ok .none
  | _ => .bad
def fnL (m : Nat) (g : Gs) : List Dt → O Dt := fun ds => match g (ds ++ List.replicate (m - ds.length) .none) with
  | .ok (.rt d) => .ok d
  | _ => .bad
def kd0 (n m : Nat) (fr : Bool) : List Kd := List.replicate n (.im fr) ++ List.replicate (m - n) .no
theorem r_start {K : PySem.W.Frag} {H : Hp} {F G : Addr → Prop} {vs : List V} {ds : List Dt} {n m : Nat} {fr : Bool} {N : List Str} (hv : vs.length = n) (hN : N.length = m) (hm : n ≤ m) (x : RpA K F H vs ds) (hg : ∀ a, H a = none → G a) (hF : fr = true → ∀ a, F a → G a) :
    R K ⟨H, G, [], [], none⟩ (kd0 n m fr) (ds ++ List.replicate (m - ds.length) .none) (L2.start N vs) H := by
  have hd : ds.length = n := by rw [← x.length]; exact hv
  have noOw : ∀ (i : Nat) (c : Ct) (fr' : Bool), (kd0 n m fr)[i]? ≠ some (.own c fr') := fun i c fr' e => by
    unfold kd0 at e
    have := List.mem_of_getElem? e
    rcases List.mem_append.mp this with h | h
    · cases List.eq_of_mem_replicate h
    · cases List.eq_of_mem_replicate h
  refine ⟨Same.refl H, hg, ?_, ?_, fun i j ci fi cj fj p h1 => absurd h1 (noOw i ci fi), fun a ha => absurd ha (by simp), fun g hg => absurd hg (by simp), fun i fr' h => ?_, fun i c fr' h => absurd h (noOw i c fr'), fun i c fr' h => absurd h (noOw i c fr')⟩
  · unfold L2.start kd0
    rw [List.length_append, List.length_append, List.length_map, List.length_replicate, List.length_replicate, List.length_replicate, hv, hN]
  · unfold kd0
    rw [List.length_append, List.length_append, List.length_replicate, List.length_replicate, List.length_replicate, hd]
  · unfold kd0 at h
    by_cases hi : i < n
    · rw [List.getElem?_append_left (by rw [List.length_replicate]; exact hi)] at h
      have efr : fr' = fr := by
        have := List.eq_of_mem_replicate (List.mem_of_getElem? h)
        cases this; rfl
      subst efr
      have hi' : i < vs.length := by rw [hv]; exact hi
      obtain ⟨d, h1, h2⟩ := x.get (List.getElem?_eq_getElem hi')
      refine ⟨vs[i], d, ?_, ?_, h2.weak fun a fa => ⟨fun _ => ⟨fun z => ?_, by simp⟩, fun e => hF e a fa⟩⟩
      · unfold L2.start
        rw [List.getElem?_append_left (by rw [List.length_map]; exact hi'), List.getElem?_map, List.getElem?_eq_getElem hi']
        rfl
      · rw [List.getElem?_append_left (by rw [hd]; exact hi)]
        exact h1
      · obtain ⟨j, c, frj, g1, _⟩ := z
        exact noOw j c frj g1
    · rw [List.getElem?_append_right (by rw [List.length_replicate]; omega)] at h
      cases List.eq_of_mem_replicate (List.mem_of_getElem? h)
section
variable {P : Program} {w : World} {K : PySem.W.Frag} {mg : Str → Option Value} {base : Heap} {x qual : Str} {st : Stmt} {fa : Addr} {fd : FuncData} {N ps : List Str} {k n m : Nat} {Δn : List Kd} {g : Gs}
theorem fn_okN (F : L2.Fun K x qual st fa fd) (S : FnScope N ps (defScope st)) (hn : ps.length = n) (hm : N.length = m) (hnm : n ≤ m)
    (hb : ∀ (cdv : Value) (A : Around) (outer : List Env) (s : Shared) (H : Hp) (E : XK), Room k (A.deeper (envOfC qual (defScope st) s.heap.objs.size fa cdv)) → ∃ ts, BD (cxOf CX0 P w K mg base N qual (defScope st) fa cdv A outer s H E).nox K W0 .n (kd0 n m false) Δn (kd0 n m false) (kd0 n m false) (defBody st) ts g) :
    FnOk P w K mg base CX0 (k + 1) fa fd ps (spG K mg n (fnN m g)) := by
  refine F.ok S (fun vs H Q E h => ?_) (fun cdv A outer s H vs Q E hr h => ?_)
  · obtain ⟨ds, h1, _⟩ := h
    rw [h1, hn]
  · obtain ⟨ds, h1, h2, h3⟩ := h
    obtain ⟨ts, B⟩ := hb cdv A outer s H E hr
    refine ⟨ts, B.ps, B.ss ⟨H, fun a => H a = none, [], [], none⟩ _ _ H _ (r_start h1 hm hnm h2 (fun _ h => h) (fun e => nomatch e)) ?_⟩
    unfold fnN at h3
    cases e : g (ds ++ List.replicate (m - ds.length) .none) with
    | bad => rw [e] at h3; exact h3.elim
    | ex z => rw [e] at h3; exact h3.elim
    | ok fl =>
      rw [e] at h3
      cases fl with
      | nx ρ => exact fun σ' H' r => h3 .non H' r.ext .non
      | rt d => exact fun v H' s x => h3 v H' s x
      | bk ρ => exact h3.elim
      | ct ρ => exact h3.elim
theorem fn_okL (F : L2.Fun K x qual st fa fd) (S : FnScope N ps (defScope st)) (hn : ps.length = n) (hm : N.length = m) (hnm : n ≤ m)
    (hb : ∀ (cdv : Value) (A : Around) (outer : List Env) (s : Shared) (H : Hp) (E : XK), Room k (A.deeper (envOfC qual (defScope st) s.heap.objs.size fa cdv)) → ∃ ts, BD (cxOf CX0 P w K mg base N qual (defScope st) fa cdv A outer s H E).nox K W0 .l (kd0 n m false) Δn (kd0 n m false) (kd0 n m false) (defBody st) ts g) :
    FnOk P w K mg base CX0 (k + 1) fa fd ps (spL K mg n (fnL m g)) := by
  refine F.ok S (fun vs H Q E h => ?_) (fun cdv A outer s H vs Q E hr h => ?_)
  · obtain ⟨ds, h1, _⟩ := h
    rw [h1, hn]
  · obtain ⟨ds, h1, h2, h3⟩ := h
    obtain ⟨ts, B⟩ := hb cdv A outer s H E hr
    refine ⟨ts, B.ps, B.ss ⟨H, fun a => H a = none, [], [], none⟩ _ _ H _ (r_start h1 hm hnm h2 (fun _ h => h) (fun e => nomatch e)) ?_⟩
    unfold fnL at h3
    cases e : g (ds ++ List.replicate (m - ds.length) .none) with
    | bad => rw [e] at h3; exact h3.elim
    | ex z => rw [e] at h3; exact h3.elim
    | ok fl =>
      rw [e] at h3
      cases fl with
      | nx ρ => exact h3.elim
      | rt d => exact fun p H' np s x => h3 p H' np s x
      | bk ρ => exact h3.elim
      | ct ρ => exact h3.elim
theorem fn_okA (F : L2.Fun K x qual st fa fd) (S : FnScope N ps (defScope st)) (hn : ps.length = n) (hm : N.length = m) (hnm : n ≤ m)
    (hb : ∀ (cdv : Value) (A : Around) (outer : List Env) (s : Shared) (H : Hp) (E : XK), Room k (A.deeper (envOfC qual (defScope st) s.heap.objs.size fa cdv)) → ∃ ts, BD (cxOf CX0 P w K mg base N qual (defScope st) fa cdv A outer s H E).nox K W0 .n (kd0 n m true) Δn (kd0 n m true) (kd0 n m true) (defBody st) ts g) :
    FnOk P w K mg base CX0 (k + 1) fa fd ps (spA K mg n (fnN m g)) := by
  refine F.ok S (fun vs H Q E h => ?_) (fun cdv A outer s H vs Q E hr h => ?_)
  · obtain ⟨ds, F, h1, _⟩ := h
    rw [h1, hn]
  · obtain ⟨ds, F, h1, h2, h3⟩ := h
    obtain ⟨ts, B⟩ := hb cdv A outer s H E hr
    refine ⟨ts, B.ps, B.ss ⟨H, fun a => F a ∨ H a = none, [], [], none⟩ _ _ H _ (r_start h1 hm hnm h2 (fun _ h => .inr h) (fun _ a h => .inl h)) ?_⟩
    unfold fnN at h3
    cases e : g (ds ++ List.replicate (m - ds.length) .none) with
    | bad => rw [e] at h3; exact h3.elim
    | ex z => rw [e] at h3; exact h3.elim
    | ok fl =>
      rw [e] at h3
      cases fl with
      | nx ρ => exact fun σ' H' r => h3 .non H' r.ext .non
      | rt d => exact fun v H' s x => h3 v H' s x
      | bk ρ => exact h3.elim
      | ct ρ => exact h3.elim
end
end Sim
end T_SimG

section T_SimH
set_option Elab.async false
set_option linter.all false
set_option maxRecDepth 100000
/-! SimH: comparisons as values and tests, chains; kinds said outright. -/
namespace Sim
open PySem PySem.Spec L2
open PyProof.Rows hiding St

structure OR (X : Cx) (K : PySem.W.Frag) (op : CmpOp) (r : R2) (h : Dt → Dt → O Dt) : Prop where
  ho : OpR X (compareOp op) r
  scl : Scl2 h
  osc : OSc K r h
section
variable {X : Cx} {K : PySem.W.Frag} {W : Wt} {n : Nat}
theorem or_lt : OR X K .Lt (rI0 fun i j => .bl (decide (i < j))) hLt := ⟨op_lt, scl_B0, osc_B0⟩
theorem or_le : OR X K .LtE (rI0 fun i j => .bl (decide (i ≤ j))) hLe := ⟨op_le, scl_B0, osc_B0⟩
theorem or_gt : OR X K .Gt (rI0 fun i j => .bl (decide (j < i))) hGt := ⟨op_gt, scl_B0, osc_B0⟩
theorem or_ge : OR X K .GtE (rI0 fun i j => .bl (decide (j ≤ i))) hGe := ⟨op_ge, scl_B0, osc_B0⟩
theorem or_eq (hr : Room n X.A) (hK : X.K = K := by rfl) : OR X K .Eq (rEqD K) hEq := ⟨by have q := op_eqD (X := X) (by have := hr.un; omega); rw [hK] at q; exact q, scl_eq, osc_eq⟩
theorem or_ne (hr : Room n X.A) (hK : X.K = K := by rfl) : OR X K .NotEq (rNeD K) hNe := ⟨by have q := op_neD (X := X) (by have := hr.un; omega); rw [hK] at q; exact q, scl_ne, osc_ne⟩
theorem or_in (hr : Room n X.A) (hK : X.K = K := by rfl) : OR X K .In (rInDT K false) hIn := ⟨by have q := op_inDT (X := X) (by have := hr.un; omega); rw [hK] at q; exact q, scl_in, osc_in⟩
theorem or_notIn (hr : Room n X.A) (hK : X.K = K := by rfl) : OR X K .NotIn (rInDT K true) hNotIn := ⟨by have q := op_notInDT (X := X) (by have := hr.un; omega); rw [hK] at q; exact q, scl_notIn, osc_notIn⟩
theorem or_isN : OR X K .Is (fun x y H Q => y = .non ∧ Q (.bl (decide (x = .non))) H) hIs := ⟨op_isN, scl_is, osc_is⟩
theorem or_notN : OR X K .IsNot (fun x y H Q => y = .non ∧ Q (.bl (!decide (x = .non))) H) hIsNot := ⟨op_notN, scl_isNot, osc_isNot⟩
end
def gChain (h h' : Dt → Dt → O Dt) (ga gb gc : Gd) : Gd := fun ρ => bnd (ga ρ) fun x => bnd (gb ρ) fun y => bnd (h x y) fun z => bnd (asB z) fun c => if c then bnd (gc ρ) fun w => h' y w else .ok (.bool false)
section
variable {K : PySem.W.Frag} {W : Wt} {Δ : List Kd} {ta tb tc : TE} {ga gb gc : Gd} {av fr av' fr' av2 fr2 : Bool}
theorem se_chain {r r' : R2} {h h' : Dt → Dt → O Dt} (hs : Scl2 h) (ho : OSc K r h) (hs' : Scl2 h') (ho' : OSc K r' h') (ha : SE K W Δ ta (.v av fr) ga) (hb : SE K W Δ tb (.v av' fr') gb) (hc : SE K W Δ tc (.v av2 fr2) gc) :
    SE K W Δ (tChain r r' ta tb tc) (.v true true) (gChain h h' ga gb gc) := fun f ρ σ H Q R q => by
  refine ha f ρ σ H _ R ?_
  unfold gChain at q
  cases e1 : ga ρ with
  | bad => rw [e1] at q; exact q
  | ex z => rw [e1] at q; exact q
  | ok d =>
    rw [e1, bnd_ok] at q
    intro v H1 s1 x1
    refine hb f ρ σ H1 _ (R.mono s1) ?_
    cases e2 : gb ρ with
    | bad => rw [e2] at q; exact q
    | ex z => rw [e2] at q; exact fun H' s => q H' (s1.trans s)
    | ok d2 =>
      rw [e2, bnd_ok] at q
      intro v2 H2 s2 x2
      refine ho H2 v v2 d d2 _ ((x1.same s2).weak fun _ _ => trivial) (x2.weak fun _ _ => trivial) ?_
      rcases hs d d2 with ⟨z, ez, sz⟩ | ez
      · rw [ez] at q ⊢
        rw [bnd_ok] at q
        refine ⟨sz, fun w x => ?_⟩
        cases x with
        | bl c =>
          refine ⟨c, rfl, ?_⟩
          cases c with
          | false =>
            show (if false = true then _ else _)
            rw [if_neg Bool.false_ne_true]
            exact q _ H2 (s1.trans s2) (.bl false)
          | true =>
            show (if true = true then _ else _)
            rw [if_pos rfl]
            have q : PoE K W f Δ σ H (.v true true) (bnd (gc ρ) fun w => h' d2 w) Q := q
            refine hc f ρ σ H2 _ ((R.mono s1).mono s2) ?_
            cases e3 : gc ρ with
            | bad => rw [e3] at q; exact q
            | ex z => rw [e3] at q; exact fun H' s => q H' ((s1.trans s2).trans s)
            | ok d3 =>
              rw [e3, bnd_ok] at q
              intro v3 H3 s3 x3
              refine ho' H3 v2 v3 d2 d3 Q ((x2.same s3).weak fun _ _ => trivial) (x3.weak fun _ _ => trivial) ?_
              rcases hs' d2 d3 with ⟨z, ez, sz⟩ | ez
              · rw [ez] at q ⊢
                exact ⟨sz, fun w x => q w H3 ((s1.trans s2).trans s3) (x.scl_any sz)⟩
              · rw [ez] at q
                exact q.elim
        | non => exact q.elim
        | int => exact q.elim
        | str => exact q.elim
        | lst => cases sz
        | fz => cases sz
        | tup => cases sz
        | dic => cases sz
        | exn => cases sz
      · rw [ez] at q
        exact q.elim
end
section
variable {X : Cx} {K : PySem.W.Frag} {W : Wt} {Δ Δ1 Δn Δb Δc : List Kd} {a b c e : Expr} {es : List Expr} {ta tb tc te : TE} {tA : TA} {ga gb gc g : Gd} {av fr av' fr' av2 fr2 : Bool} {L : Lk} {pos : Pos} {op op' : CmpOp} {r r' : R2} {h h' : Dt → Dt → O Dt} {t : TS} {g1 : Gs} {st : Stmt} {sts : List Stmt}
theorem x_cmp (o : OR X K op r h) (ha : PD X K W Δ a ta (.v av fr) ga) (hb : PD X K W Δ b tb (.v av' fr') gb) (hm : behindInMarks op b = false := by first | exact nobehind _ (by decide) (by decide) | rfl) : PD X K W Δ (.Compare a [op] [b] pos) (tOp r ta tb) (.v true true) (gOp h ga gb) := ⟨pe_cmpR o.ho ha.pe hb.pe hm, ha.hK, se_op o.scl o.osc ha.se hb.se⟩
theorem c_cmp (o : OR X K op r h) (ha : PD X K W Δ a ta (.v av fr) ga) (hb : PD X K W Δ b tb (.v av' fr') gb) (hm : behindInMarks op b = false := by first | exact nobehind _ (by decide) (by decide) | rfl) : TD X K W Δ (.Compare a [op] [b] pos) (tTest (tOp r ta tb)) (gTest (gOp h ga gb)) := ⟨pt_cmpR o.ho ha.pe hb.pe hm, ha.hK, st_test (se_op o.scl o.osc ha.se hb.se)⟩
theorem x_chain (o : OR X K op r h) (o' : OR X K op' r' h') (ha : PD X K W Δ a ta (.v av fr) ga) (hb : PD X K W Δ b tb (.v av' fr') gb) (hc : PD X K W Δ c tc (.v av2 fr2) gc) (hm : lastMarks [op, op'] [b, c] = false := by with_unfolding_all rfl) : PD X K W Δ (.Compare a [op, op'] [b, c] pos) (tChain r r' ta tb tc) (.v true true) (gChain h h' ga gb gc) :=
  ⟨pe_chain o.ho o'.ho ha.pe hb.pe hc.pe hm, ha.hK, se_chain o.scl o.osc o'.scl o'.osc ha.se hb.se hc.se⟩
theorem c_chain (o : OR X K op r h) (o' : OR X K op' r' h') (ha : PD X K W Δ a ta (.v av fr) ga) (hb : PD X K W Δ b tb (.v av' fr') gb) (hc : PD X K W Δ c tc (.v av2 fr2) gc) (hm : lastMarks [op, op'] [b, c] = false := by with_unfolding_all rfl) : TD X K W Δ (.Compare a [op, op'] [b, c] pos) (tTest (tChain r r' ta tb tc)) (gTest (gChain h h' ga gb gc)) :=
  ⟨pt_chain o.ho o'.ho ha.pe hb.pe hc.pe hm, ha.hK, st_test (se_chain o.scl o.osc o'.scl o'.osc ha.se hb.se hc.se)⟩

theorem SD.to (Δn' : List Kd) (h : SD X K W L Δ Δn Δb Δc st t g1) (l : leA Δn Δn' = true := by rfl) : SD X K W L Δ Δn' Δb Δc st t g1 := ⟨h.ps, h.hK, fun f ρ σ H E r q => h.ss f ρ σ H E r <| by
  cases e : g1 ρ with
  | bad => rw [e] at q; exact q
  | ex z => rw [e] at q; exact q
  | ok fl =>
    rw [e] at q
    cases fl with
    | nx ρ' => exact fun σ' H' r => q σ' H' (r.weak l)
    | rt d => exact q
    | bk ρ' => exact q
    | ct ρ' => exact q⟩
theorem SD.frm (Δ0 : List Kd) (h : SD X K W L Δ0 Δn Δb Δc st t g1) (l : leA Δ Δ0 = true := by rfl) : SD X K W L Δ Δn Δb Δc st t g1 := ⟨h.ps, h.hK, h.ss.pre l⟩
theorem BD.to (Δn' : List Kd) (h : BD X K W L Δ Δn Δb Δc sts t g1) (l : leA Δn Δn' = true := by rfl) : BD X K W L Δ Δn' Δb Δc sts t g1 := ⟨h.ps, h.hK, fun f ρ σ H E r q => h.ss f ρ σ H E r <| by
  cases e : g1 ρ with
  | bad => rw [e] at q; exact q
  | ex z => rw [e] at q; exact q
  | ok fl =>
    rw [e] at q
    cases fl with
    | nx ρ' => exact fun σ' H' r => q σ' H' (r.weak l)
    | rt d => exact q
    | bk ρ' => exact q
    | ct ρ' => exact q⟩
theorem BD.frm (Δ0 : List Kd) (h : BD X K W L Δ0 Δn Δb Δc sts t g1) (l : leA Δ Δ0 = true := by rfl) : BD X K W L Δ Δn Δb Δc sts t g1 := ⟨h.ps, h.hK, h.ss.pre l⟩
def gBrk : Gs := fun ρ => .ok (.bk ρ)
def gCnt : Gs := fun ρ => .ok (.ct ρ)
theorem z_brk (hK : X.K = K := by rfl) : SD X K W L Δ Δn Δ Δc (.Break pos) tBreak gBrk := ⟨ps_break, hK, s_brk⟩
theorem z_cont (hK : X.K = K := by rfl) : SD X K W L Δ Δn Δb Δ (.Continue pos) tCont gCnt := ⟨ps_continue, hK, s_cont⟩
end
section
variable {X : Cx} {K : PySem.W.Frag} {W : Wt} {Δ : List Kd} {e : Expr} {te : TE} {g : Gd} {c : Ct} {fr fr' : Bool}
theorem SE.wkN (h : SE K W Δ te (.new c fr) g) (h2 : fr' = true → fr = true) : SE K W Δ te (.new c fr') g := fun f ρ σ H Q r q =>
  h f ρ σ H Q r <| by
    cases e : g ρ with
    | bad => rw [e] at q; exact q
    | ex z => rw [e] at q; exact q
    | ok d => rw [e] at q; exact fun p H' np s x => q p H' np s (x.map (fun _ e => e) fun _ _ y => y.weak fun a fa => ⟨fa.1.weak id h2, fa.2⟩)
theorem PD.wkN (fr' : Bool) (h : PD X K W Δ e te (.new c fr) g) (h2 : fr' = true → fr = true := by decide) : PD X K W Δ e te (.new c fr') g := ⟨h.pe, h.hK, SE.wkN h.se h2⟩
theorem AD.to {es : List Expr} {tA : TA} {av fr : Bool} {gA : List Dt → O (List Dt)} (av' fr' : Bool) (h : AD X K W Δ es tA av fr gA) (h1 : av' = true → av = true := by decide) (h2 : fr' = true → fr = true := by decide) : AD X K W Δ es tA av' fr' gA := h.wk h1 h2
theorem blk_fx {N : List Str} {sc scope : Scope} {own : List (Str × Nat)} (h : blkC N sc scope own = true) (e1 : X.N = N := by rfl) (e2 : X.env.scope = sc := by rfl) : blkC X.N X.env.scope scope own = true := by
  rw [e1, e2]
  exact h
end
/-! ### a law's end: what it gives does not hang on the names -/
def spLaw (K : PySem.W.Frag) (g : List Dt → O Dt) : Sp := fun vs H Q _ => ∃ ds, vs.length = 1 ∧ RpA K (fun _ => True) H vs ds ∧ g ds = .ok (.bool true) ∧ ∀ H', Q (.bl true) H'
theorem spLaw_of {K : PySem.W.Frag} {H : Hp} {a : Addr} {ns : List Int} {g : List Dt → O Dt} (hS : SqL K H a (ns.map V.int)) (h : g [.list (ns.map .int)] = .ok (.bool true)) : spLaw K g [.ref a] H (fun v _ => v = .bl true) fun _ _ _ => False := by
  refine ⟨_, rfl, .cons ?_ .nil, h, fun _ => rfl⟩
  rcases hS with (h | ⟨o, h⟩) | h
  · exact .lst h trivial (rpA_ints ns)
  · exact .fz (.inl ⟨o, h⟩) (rpA_ints ns)
  · exact .fz (.inr h) (rpA_ints ns)
theorem okLaw_of {P : Program} {w : World} {K : PySem.W.Frag} {mg : Str → Option Value} {CX : CXT} {k : Nat} {fa : Addr} {g : List Dt → O Dt}
    (h : ∃ fd : FuncData, (∀ (s : Shared) (v : Value), BindsTo s fd ⟨[v], []⟩ [("script", v)]) ∧ ∀ base : Heap, K.In base → base.Ns mainGlobals mg → FnOk P w K mg base CX k fa fd ["script"] (spG K mg 1 g)) :
    ∃ fd : FuncData, (∀ (s : Shared) (v : Value), BindsTo s fd ⟨[v], []⟩ [("script", v)]) ∧ ∀ base : Heap, K.In base → base.Ns mainGlobals mg → FnOk P w K mg base CX k fa fd ["script"] (spLaw K g) := by
  obtain ⟨fd, h1, h2⟩ := h
  have key : ∀ vs H Q E, spLaw K g vs H Q E → spG K mg 1 g vs H Q E := fun vs H Q E ⟨ds, a, b, c, d⟩ => ⟨ds, a, b, by
    rw [c]
    intro v H' s x
    cases x
    exact d H'⟩
  refine ⟨fd, h1, fun base a b => ?_⟩
  obtain ⟨len, run⟩ := h2 base a b
  exact ⟨fun vs H Q E x => len vs H Q E (key vs H Q E x), fun A outer s H args us vs Q E hr e0 hb r x => run A outer s H args us vs Q E hr e0 hb r (key vs H Q E x)⟩
end Sim
end T_SimH

section T_SimP
set_option Elab.async false
set_option linter.all false
set_option maxRecDepth 100000
/-! SimP: plain lemmas about the closures. -/
namespace Sim
open PySem

/-! ### steps -/
theorem gVar_def (i : Nat) (ρ : List Dt) : gVar i ρ = match ρ[i]? with | some d => .ok d | none => .bad := rfl
theorem gC_def (d : Dt) (ρ : List Dt) : gC d ρ = .ok d := rfl
theorem gOp_def (h : Dt → Dt → O Dt) (a b : Gd) (ρ : List Dt) : gOp h a b ρ = bnd (a ρ) fun x => bnd (b ρ) fun y => h x y := rfl
theorem gUn_def (h : Dt → O Dt) (a : Gd) (ρ : List Dt) : gUn h a ρ = bnd (a ρ) h := rfl
theorem gNil_def (ρ : List Dt) : gNil ρ = .ok [] := rfl
theorem gCons_def (a : Gd) (b : List Dt → O (List Dt)) (ρ : List Dt) : gCons a b ρ = bnd (a ρ) fun x => bnd (b ρ) fun xs => .ok (x :: xs) := rfl
theorem gTup_ok {a : List Dt → O (List Dt)} {ρ : List Dt} {xs : List Dt} (h : a ρ = .ok xs) (hl : xs.length ≤ 100000) : gTup a ρ = .ok (.tuple xs) := by unfold gTup; rw [h, bnd_ok, if_pos hl]
theorem gTup_def (a : List Dt → O (List Dt)) (ρ : List Dt) : gTup a ρ = bnd (a ρ) fun xs => if xs.length ≤ 100000 then .ok (.tuple xs) else .bad := rfl
theorem gLst_def (a : List Dt → O (List Dt)) (ρ : List Dt) : gLst a ρ = bnd (a ρ) fun xs => if xs.length ≤ 100000 then .ok (.list xs) else .bad := rfl
theorem gIf_def (t : List Dt → O Bool) (a b : Gd) (ρ : List Dt) : gIf t a b ρ = bnd (t ρ) fun c => if c then a ρ else b ρ := rfl
theorem gTest_def (a : Gd) (ρ : List Dt) : gTest a ρ = bnd (a ρ) asB := rfl
theorem gNot_def (t : List Dt → O Bool) (ρ : List Dt) : gNot t ρ = bnd (t ρ) fun b => .ok (!b) := rfl
theorem gAnd_def (t u : List Dt → O Bool) (ρ : List Dt) : gAnd t u ρ = bnd (t ρ) fun b => if b then u ρ else .ok false := rfl
theorem gOr_def (t u : List Dt → O Bool) (ρ : List Dt) : gOr t u ρ = bnd (t ρ) fun b => if b then .ok true else u ρ := rfl
theorem gAndV_def (a b : Gd) (ρ : List Dt) : gAndV a b ρ = bnd (a ρ) fun x => bnd (asB x) fun c => if c then b ρ else .ok (.bool false) := rfl
theorem gOrV_def (a b : Gd) (ρ : List Dt) : gOrV a b ρ = bnd (a ρ) fun x => bnd (asB x) fun c => if c then .ok (.bool true) else b ρ := rfl
theorem gNotV_def (a : Gd) (ρ : List Dt) : gNotV a ρ = bnd (a ρ) fun x => bnd (asB x) fun c => .ok (.bool (!c)) := rfl
theorem gCB_def (h : List Dt → O Dt) (a : List Dt → O (List Dt)) (ρ : List Dt) : gCB h a ρ = bnd (a ρ) h := rfl
theorem gPur_def (a : Gd) (ρ : List Dt) : gPur a ρ = bnd (a ρ) fun d => if pure1 d then .ok d else .bad := rfl
theorem gPurN_def (a : Gd) (ρ : List Dt) : gPurN a ρ = bnd (a ρ) fun d => if pureIn d then .ok d else .bad := rfl
theorem gPurV_def (i : Nat) (ρ : List Dt) : gPurV i ρ = gPurN (gVar i) ρ := rfl
theorem asB_b (b : Bool) : asB (.bool b) = .ok b := rfl
theorem hAdd_i (i j : Int) : hAdd (.int i) (.int j) = .ok (.int (i + j)) := rfl
theorem hSub_i (i j : Int) : hSub (.int i) (.int j) = .ok (.int (i - j)) := rfl
theorem hLt_i (i j : Int) : hLt (.int i) (.int j) = .ok (.bool (decide (i < j))) := rfl
theorem hLe_i (i j : Int) : hLe (.int i) (.int j) = .ok (.bool (decide (i ≤ j))) := rfl
theorem hGt_i (i j : Int) : hGt (.int i) (.int j) = .ok (.bool (decide (j < i))) := rfl
theorem hGe_i (i j : Int) : hGe (.int i) (.int j) = .ok (.bool (decide (j ≤ i))) := rfl
theorem hBand_i (i j : Int) : hBand (.int i) (.int j) = .ok (.int (Builtin.bitAnd i j)) := rfl
theorem hMul_r {i j : Int} (h1 : -18446744073709551616 < j) (h2 : j < 18446744073709551616) : hMul (.int i) (.int j) = .ok (.int (i * j)) := by
  show (if cMul i j then O.ok (PyData.int (i * j)) else .bad) = _
  rw [if_pos]
  unfold cMul
  rw [Bool.or_eq_true, decide_eq_true_eq, decide_eq_true_eq]
  right; omega
theorem hMul_l {i j : Int} (h1 : -18446744073709551616 < i) (h2 : i < 18446744073709551616) : hMul (.int i) (.int j) = .ok (.int (i * j)) := by
  show (if cMul i j then O.ok (PyData.int (i * j)) else .bad) = _
  rw [if_pos]
  unfold cMul
  rw [Bool.or_eq_true, decide_eq_true_eq, decide_eq_true_eq]
  left; omega
theorem hMod_i {i j : Int} (h : 0 < j) : hMod (.int i) (.int j) = .ok (.int (i % j)) := by
  show (if cMod i j then O.ok (PyData.int (i % j)) else .bad) = _
  rw [if_pos]
  unfold cMod
  exact decide_eq_true h
theorem hDiv_i {i j : Int} (h : 0 < j) (h2 : j.natAbs < 2 ^ 400) : hDiv (.int i) (.int j) = .ok (.int (i / j)) := by
  show (if cDiv i j then O.ok (PyData.int (i / j)) else .bad) = _
  rw [if_pos]
  unfold cDiv
  rw [Bool.and_eq_true]
  exact ⟨decide_eq_true h, decide_eq_true h2⟩
theorem hDiv_s {i j : Int} (h : 0 < j) (h2 : j < 1000000000000000000000000000000000) : hDiv (.int i) (.int j) = .ok (.int (i / j)) := hDiv_i h (by omega)
theorem hShr_i {i j : Int} (h : 0 ≤ j) : hShr (.int i) (.int j) = .ok (.int (i / 2 ^ j.toNat)) := by
  show (if cShr i j then O.ok (PyData.int (i / 2 ^ j.toNat)) else .bad) = _
  rw [if_pos]
  exact decide_eq_true h
theorem hPow_10_18 : hPow (.int 10) (.int 18) = .ok (.int 1000000000000000000) := by
  show (if cPow 10 18 then O.ok (PyData.int ((10 : Int) ^ (18 : Int).toNat)) else .bad) = _
  rw [if_pos (by decide)]
  rfl
theorem hPow_10_27 : hPow (.int 10) (.int 27) = .ok (.int 1000000000000000000000000000) := by
  show (if cPow 10 27 then O.ok (PyData.int ((10 : Int) ^ (27 : Int).toNat)) else .bad) = _
  rw [if_pos (by decide)]
  rfl
theorem hPow_10_28 : hPow (.int 10) (.int 28) = .ok (.int 10000000000000000000000000000) := by
  show (if cPow 10 28 then O.ok (PyData.int ((10 : Int) ^ (28 : Int).toNat)) else .bad) = _
  rw [if_pos (by decide)]
  rfl
theorem hPow_10_29 : hPow (.int 10) (.int 29) = .ok (.int 100000000000000000000000000000) := by
  show (if cPow 10 29 then O.ok (PyData.int ((10 : Int) ^ (29 : Int).toNat)) else .bad) = _
  rw [if_pos (by decide)]
  rfl
theorem hPow_10_30 : hPow (.int 10) (.int 30) = .ok (.int 1000000000000000000000000000000) := by
  show (if cPow 10 30 then O.ok (PyData.int ((10 : Int) ^ (30 : Int).toNat)) else .bad) = _
  rw [if_pos (by decide)]
  rfl
theorem shaped_int (i : Int) : SeqAt.shaped (.int i) = true := by simp [SeqAt.shaped, PyData.canLay0, PyData.depth]
theorem shaped_bool (i : Bool) : SeqAt.shaped (.bool i) = true := by simp [SeqAt.shaped, PyData.canLay0, PyData.depth]
theorem shaped_none : SeqAt.shaped .none = true := by simp [SeqAt.shaped, PyData.canLay0, PyData.depth]
theorem hEq_i (i j : Int) : hEq (.int i) (.int j) = .ok (.bool (i == j)) := by unfold hEq; rw [shaped_int, shaped_int]; simp [PyData.eqv]
theorem hNe_i (i j : Int) : hNe (.int i) (.int j) = .ok (.bool (!(i == j))) := by unfold hNe; rw [shaped_int, shaped_int]; simp [PyData.eqv]
theorem hEq_b (i j : Bool) : hEq (.bool i) (.bool j) = .ok (.bool (i == j)) := by unfold hEq; rw [shaped_bool, shaped_bool]; simp [PyData.eqv]
theorem hNe_b (i j : Bool) : hNe (.bool i) (.bool j) = .ok (.bool (!(i == j))) := by unfold hNe; rw [shaped_bool, shaped_bool]; simp [PyData.eqv]
theorem hLen_l (xs : List Dt) : hLen [.list xs] = .ok (.int xs.length) := rfl
theorem hLen_t (xs : List Dt) : hLen [.tuple xs] = .ok (.int xs.length) := rfl
theorem hMin2_i (i j : Int) : hMin2 [.int i, .int j] = .ok (.int (if j < i then j else i)) := rfl
theorem hMax2_i (i j : Int) : hMax2 [.int i, .int j] = .ok (.int (if j > i then j else i)) := rfl
theorem hMin3_i (i j k : Int) : hMin3 [.int i, .int j, .int k] = .ok (.int (if j < i then (if k < j then k else j) else (if k < i then k else i))) := rfl
theorem hInt1_b (k : Bool) : hInt1 [.bool k] = .ok (.int (if k then 1 else 0)) := rfl
theorem hInt1_i (k : Int) : hInt1 [.int k] = .ok (.int k) := rfl
theorem hBits_i (i : Int) : hBits (.int i) = .ok (.int (Builtin.Int.intBits i : Nat)) := rfl
theorem hListOf_l (xs : List Dt) : one hListOf [.list xs] = .ok (.list xs) := rfl
theorem hListOf_t (xs : List Dt) : one hListOf [.tuple xs] = .ok (.list xs) := rfl
theorem hTupOf_l (xs : List Dt) : one hTupOf [.list xs] = .ok (.tuple xs) := rfl
theorem hTupOf_t (xs : List Dt) : one hTupOf [.tuple xs] = .ok (.tuple xs) := rfl

/-! ### statements -/
theorem seq_nx {a b : Gs} {ρ ρ' : List Dt} (h : a ρ = .ok (.nx ρ')) : gSeqS a b ρ = b ρ' := by unfold gSeqS; rw [h]
theorem seq_rt {a b : Gs} {ρ : List Dt} {d : Dt} (h : a ρ = .ok (.rt d)) : gSeqS a b ρ = .ok (.rt d) := by unfold gSeqS; rw [h]
theorem set_ok {i : Nat} {g : Gd} {ρ : List Dt} {d : Dt} (h : g ρ = .ok d) : gSet i g ρ = .ok (.nx (ρ.set i d)) := by unfold gSet; rw [h]; rfl
theorem ret_ok {g : Gd} {ρ : List Dt} {d : Dt} (h : g ρ = .ok d) : gRet g ρ = .ok (.rt d) := by unfold gRet; rw [h]; rfl
theorem if_t {t : List Dt → O Bool} {a b : Gs} {ρ : List Dt} (h : t ρ = .ok true) : gIfS t a b ρ = a ρ := by unfold gIfS; rw [h]; rfl
theorem if_f {t : List Dt → O Bool} {a b : Gs} {ρ : List Dt} (h : t ρ = .ok false) : gIfS t a b ρ = b ρ := by unfold gIfS; rw [h]; rfl
theorem gSeqS_def (a b : Gs) (ρ : List Dt) : gSeqS a b ρ = match a ρ with | .ok (.nx ρ') => b ρ' | o => o := rfl
theorem gSet_def (i : Nat) (g : Gd) (ρ : List Dt) : gSet i g ρ = bnd (g ρ) fun d => .ok (.nx (ρ.set i d)) := rfl
theorem gRet_def (g : Gd) (ρ : List Dt) : gRet g ρ = bnd (g ρ) fun d => .ok (.rt d) := rfl
theorem gIfS_def (t : List Dt → O Bool) (a b : Gs) (ρ : List Dt) : gIfS t a b ρ = bnd (t ρ) fun c => if c then a ρ else b ρ := rfl
theorem gNext_def (ρ : List Dt) : gNext ρ = .ok (.nx ρ) := rfl
theorem gApp_l {i : Nat} {g : Gd} {ρ : List Dt} {ds : List Dt} {d : Dt} (h1 : ρ[i]? = some (.list ds)) (h2 : g ρ = .ok d) (h3 : ds.length < 100000) : gApp i g ρ = .ok (.nx (ρ.set i (.list (ds ++ [d])))) := by
  unfold gApp
  rw [h1]
  simp only [h2, bnd_ok]
  rw [if_pos h3]
theorem gExt_l {i : Nat} {g : Gd} {ρ : List Dt} {ds es : List Dt} (h1 : ρ[i]? = some (.list ds)) (h2 : g ρ = .ok (.list es)) (h3 : ds.length + es.length ≤ 100000) : gExt i g ρ = .ok (.nx (ρ.set i (.list (ds ++ es)))) := by
  unfold gExt
  rw [h1]
  simp only [h2, bnd_ok]
  rw [if_pos h3]
theorem callN_ok {n : Nat} {g : List Dt → O Dt} {gA : List Dt → O (List Dt)} {ρ ds : List Dt} {d : Dt} (h1 : gA ρ = .ok ds) (h2 : ds.length = n) (h3 : g ds = .ok d) : gCallN n g gA ρ = .ok d := by
  unfold gCallN
  rw [h1, bnd_ok, if_pos h2, h3]
theorem asg_ok {g : Gd} {h : Dt → List Dt → O (List Dt)} {ρ ρ' : List Dt} {d : Dt} (h1 : g ρ = .ok d) (h2 : h d ρ = .ok ρ') : gAsg g h ρ = .ok (.nx ρ') := by
  unfold gAsg
  rw [h1, bnd_ok, h2]
theorem fnN_rt {m : Nat} {g : Gs} {ds : List Dt} {d : Dt} (h : g (ds ++ List.replicate (m - ds.length) .none) = .ok (.rt d)) : fnN m g ds = .ok d := by unfold fnN; rw [h]
theorem fnL_rt {m : Nat} {g : Gs} {ds : List Dt} {d : Dt} (h : g (ds ++ List.replicate (m - ds.length) .none) = .ok (.rt d)) : fnL m g ds = .ok d := by unfold fnL; rw [h]

/-! ### walks and comprehensions -/
theorem lcE_map {α : Type} (enc : α → Dt) (p : α → Bool) (q : α → Dt) {h : Dt → List Dt → O (List Dt)} {gt : List Dt → O Bool} {ge : Gd} {ρ : List Dt} : ∀ (xs : List α), (∀ x ∈ xs, ∃ ρ', h (enc x) ρ = .ok ρ' ∧ gt ρ' = .ok (p x) ∧ (p x = true → ge ρ' = .ok (q x))) →
    lcE h gt ge ρ (xs.map enc) = .ok ((xs.filter p).map q)
  | [], _ => rfl
  | x :: xs, H => by
    obtain ⟨ρ', h1, h2, h3⟩ := H x List.mem_cons_self
    have ih := lcE_map enc p q xs fun y hy => H y (List.mem_cons_of_mem _ hy)
    rw [List.map_cons]
    unfold lcE
    rw [h1, bnd_ok, h2, bnd_ok]
    cases hp : p x with
    | true => rw [if_pos rfl, h3 hp, bnd_ok, ih, bnd_ok, List.filter_cons_of_pos hp, List.map_cons]
    | false => rw [if_neg Bool.false_ne_true, ih, List.filter_cons_of_neg (by rw [hp]; exact Bool.false_ne_true)]
theorem gLc_map {α : Type} (enc : α → Dt) (p : α → Bool) (q : α → Dt) {gi : List Dt → O (List Dt)} {h : Dt → List Dt → O (List Dt)} {gt : List Dt → O Bool} {ge : Gd} {ρ : List Dt} {xs : List α} (h1 : gi ρ = .ok (xs.map enc)) (h2 : xs.length ≤ 100000)
    (H : ∀ x ∈ xs, ∃ ρ', h (enc x) ρ = .ok ρ' ∧ gt ρ' = .ok (p x) ∧ (p x = true → ge ρ' = .ok (q x))) : gLc gi h gt ge ρ = .ok (.list ((xs.filter p).map q)) := by
  unfold gLc
  rw [h1, bnd_ok, if_pos (by rw [List.length_map]; exact h2), lcE_map enc p q xs H]
/-- a for whose turns go on: the state is a fold -/
theorem forE_fold {α β : Type} (enc : α → Dt) (st : β → List Dt) (step : β → α → β) {h : Dt → List Dt → O (List Dt)} {b : Gs} (I : List α → β → Prop) : ∀ (xs : List α) (pre : List α) (s : β), I pre s →
    (∀ pre x s, x ∈ xs → I pre s → (∃ ρ1, h (enc x) (st s) = .ok ρ1 ∧ (b ρ1 = .ok (.nx (st (step s x))) ∨ b ρ1 = .ok (.ct (st (step s x))))) ∧ I (pre ++ [x]) (step s x)) →
    forE h b (xs.map enc) (st s) = .ok (.nx (st (xs.foldl step s))) ∧ I (pre ++ xs) (xs.foldl step s)
  | [], pre, s, hi, _ => ⟨rfl, by rw [List.append_nil]; exact hi⟩
  | x :: xs, pre, s, hi, H => by
    obtain ⟨⟨ρ1, h1, h2⟩, h3⟩ := H pre x s List.mem_cons_self hi
    have ih := forE_fold enc st step I xs (pre ++ [x]) (step s x) h3 fun pre y s hy hi => H pre y s (List.mem_cons_of_mem _ hy) hi
    rw [List.append_assoc] at ih
    refine ⟨?_, ih.2⟩
    rw [List.map_cons]
    unfold forE
    rw [h1]
    simp only
    rcases h2 with h2 | h2
    · rw [h2, bnd_ok]; exact ih.1
    · rw [h2, bnd_ok]; exact ih.1
/-- a for by an invariant over the states themselves -/
theorem forE_inv {α : Type} (enc : α → Dt) {h : Dt → List Dt → O (List Dt)} {b : Gs} (I : List α → List Dt → Prop) : ∀ (xs : List α) (pre : List α) (ρ : List Dt), I pre ρ →
    (∀ pre x ρ, x ∈ xs → I pre ρ → ∃ ρ1 ρ2, h (enc x) ρ = .ok ρ1 ∧ (b ρ1 = .ok (.nx ρ2) ∨ b ρ1 = .ok (.ct ρ2)) ∧ I (pre ++ [x]) ρ2) →
    ∃ ρ', forE h b (xs.map enc) ρ = .ok (.nx ρ') ∧ I (pre ++ xs) ρ'
  | [], pre, ρ, hi, _ => ⟨ρ, rfl, by rw [List.append_nil]; exact hi⟩
  | x :: xs, pre, ρ, hi, H => by
    obtain ⟨ρ1, ρ2, h1, h2, h3⟩ := H pre x ρ List.mem_cons_self hi
    obtain ⟨ρ', ih1, ih2⟩ := forE_inv enc I xs (pre ++ [x]) ρ2 h3 fun pre y s hy hi => H pre y s (List.mem_cons_of_mem _ hy) hi
    rw [List.append_assoc] at ih2
    refine ⟨ρ', ?_, ih2⟩
    rw [List.map_cons]
    unfold forE
    rw [h1]
    simp only
    rcases h2 with h2 | h2
    · rw [h2, bnd_ok]; exact ih1
    · rw [h2, bnd_ok]; exact ih1
/-- a for by an invariant over the turn's number -/
theorem forE_ix {α : Type} (enc : α → Dt) {h : Dt → List Dt → O (List Dt)} {b : Gs} (xs : List α) (I : Nat → List Dt → Prop) {ρ : List Dt} (h0 : I 0 ρ)
    (H : ∀ i ρ (hi : i < xs.length), I i ρ → ∃ ρ1 ρ2, h (enc xs[i]) ρ = .ok ρ1 ∧ (b ρ1 = .ok (.nx ρ2) ∨ b ρ1 = .ok (.ct ρ2)) ∧ I (i + 1) ρ2) :
    ∃ ρ', forE h b (xs.map enc) ρ = .ok (.nx ρ') ∧ I xs.length ρ' := by
  have key : ∀ n i ρ, i + n = xs.length → I i ρ → ∃ ρ', forE h b ((xs.drop i).map enc) ρ = .ok (.nx ρ') ∧ I xs.length ρ' := by
    intro n
    induction n with
    | zero =>
      intro i ρ e hi
      have e : i = xs.length := by omega
      subst e
      rw [List.drop_length]
      exact ⟨ρ, rfl, hi⟩
    | succ n ih =>
      intro i ρ e hi
      have hlt : i < xs.length := by omega
      obtain ⟨ρ1, ρ2, h1, h2, h3⟩ := H i ρ hlt hi
      obtain ⟨ρ', q1, q2⟩ := ih (i + 1) ρ2 (by omega) h3
      refine ⟨ρ', ?_, q2⟩
      rw [List.drop_eq_getElem_cons hlt, List.map_cons]
      unfold forE
      rw [h1]
      simp only
      rcases h2 with h2 | h2
      · rw [h2, bnd_ok]; exact q1
      · rw [h2, bnd_ok]; exact q1
  have := key xs.length 0 ρ (by omega) h0
  rwa [List.drop_zero] at this
theorem for_ok {gi : List Dt → O (List Dt)} {h : Dt → List Dt → O (List Dt)} {b : Gs} {ρ : List Dt} {ds : List Dt} {z : O Fl} (h1 : gi ρ = .ok ds) (h2 : forE h b ds ρ = z) : gFor gi h b ρ = z := by unfold gFor; rw [h1, bnd_ok, h2]
theorem while_f {t : List Dt → O Bool} {b : Gs} {n : Nat} {ρ : List Dt} (h : t ρ = .ok false) (hn : n ≠ 0 := by decide) : gWhile t b n ρ = .ok (.nx ρ) := by
  cases n with
  | zero => exact absurd rfl hn
  | succ n => unfold gWhile; rw [h]; rfl
theorem while_t {t : List Dt → O Bool} {b : Gs} {n : Nat} {ρ ρ' : List Dt} (h : t ρ = .ok true) (h2 : b ρ = .ok (.nx ρ')) : gWhile t b (n + 1) ρ = gWhile t b n ρ' := by
  conv => lhs; unfold gWhile
  simp only [h, bnd_ok, if_true, h2]
theorem rng1_ok {g : List Dt → O (List Dt)} {ρ : List Dt} {j : Int} (h : g ρ = .ok [.int j]) (h1 : -4611686018427387904 ≤ j) (h2 : j < 4611686018427387904) : gRng1 g ρ = .ok (rangeD 0 j) := by
  unfold gRng1
  rw [h, bnd_ok]
  unfold rng1
  simp only
  rw [if_pos (by constructor <;> omega)]
theorem rng2_ok {g : List Dt → O (List Dt)} {ρ : List Dt} {i j : Int} (h : g ρ = .ok [.int i, .int j]) (h1 : -4611686018427387904 ≤ j) (h2 : j < 4611686018427387904) (h3 : -4611686018427387904 ≤ i) (h4 : i < 4611686018427387904) : gRng2 g ρ = .ok (rangeD i j) := by
  unfold gRng2
  rw [h, bnd_ok]
  unfold rng2
  simp only
  rw [if_pos (by refine ⟨?_, ?_, ?_, ?_⟩ <;> omega)]
theorem rangeD_nat (n : Nat) : rangeD 0 (n : Int) = (List.range n).map fun (i : Nat) => PyData.int (i : Int) := by
  unfold rangeD
  rw [Int.sub_zero, Int.toNat_natCast]
  apply List.map_congr_left
  intro i _
  rw [Int.zero_add]
theorem seqG_l {g : Gd} {ρ : List Dt} {ds : List Dt} (h : g ρ = .ok (.list ds)) : gSeq g ρ = .ok ds := by unfold gSeq; rw [h]; rfl
theorem seqG_t {g : Gd} {ρ : List Dt} {ds : List Dt} (h : g ρ = .ok (.tuple ds)) : gSeq g ρ = .ok ds := by unfold gSeq; rw [h]; rfl

/-! ### lists of ints -/
abbrev dI (i : Int) : Dt := .int i
abbrev dIs (xs : List Int) : Dt := .list (xs.map .int)
theorem allI_map : ∀ xs : List Int, allI (xs.map .int) = some xs
  | [] => rfl
  | x :: xs => by rw [List.map_cons]; unfold allI; rw [allI_map xs]; rfl
theorem allB_map : ∀ xs : List Bool, allB (xs.map .bool) = some xs
  | [] => rfl
  | x :: xs => by rw [List.map_cons]; unfold allB; rw [allB_map xs]; rfl
theorem canLay_ints : ∀ xs : List Int, PyData.canLayAll0 (xs.map .int) = true
  | [] => by simp [PyData.canLayAll0]
  | x :: xs => by simp [PyData.canLayAll0, PyData.canLay0, canLay_ints xs]
theorem depth_ints : ∀ xs : List Int, PyData.depthAll (xs.map .int) = 0
  | [] => by simp [PyData.depthAll]
  | x :: xs => by simp [PyData.depthAll, PyData.depth, depth_ints xs]
theorem shaped_ints (xs : List Int) : SeqAt.shaped (.list (xs.map .int)) = true := by simp [SeqAt.shaped, PyData.canLay0, PyData.depth, canLay_ints, depth_ints]
theorem shaped_intsT (xs : List Int) : SeqAt.shaped (.tuple (xs.map .int)) = true := by simp [SeqAt.shaped, PyData.canLay0, PyData.depth, canLay_ints, depth_ints]
theorem eqvAll_ints : ∀ xs ys : List Int, PyData.eqvAll (xs.map .int) (ys.map .int) = decide (xs = ys)
  | [], [] => by simp [PyData.eqvAll]
  | [], _ :: _ => by simp [PyData.eqvAll]
  | _ :: _, [] => by simp [PyData.eqvAll]
  | x :: xs, y :: ys => by
    simp only [List.map_cons, PyData.eqvAll, PyData.eqv, eqvAll_ints xs ys]
    by_cases h1 : x = y <;> by_cases h2 : xs = ys <;> simp [h1, h2]
theorem hEq_ints (xs ys : List Int) : hEq (.list (xs.map .int)) (.list (ys.map .int)) = .ok (.bool (decide (xs = ys))) := by
  unfold hEq; rw [shaped_ints, shaped_ints]; simp only [PyData.eqv, eqvAll_ints, Bool.and_self, if_true]
theorem hNe_ints (xs ys : List Int) : hNe (.list (xs.map .int)) (.list (ys.map .int)) = .ok (.bool (!decide (xs = ys))) := by
  unfold hNe; rw [shaped_ints, shaped_ints]; simp only [PyData.eqv, eqvAll_ints, Bool.and_self, if_true]
theorem any_ints (i : Int) : ∀ xs : List Int, ((xs.map PyData.int).any fun z => PyData.eqv z (.int i)) = decide (i ∈ xs)
  | [] => by simp
  | x :: xs => by
    rw [List.map_cons, List.any_cons, any_ints i xs]
    simp only [PyData.eqv, List.mem_cons]
    by_cases h : x = i
    · subst h; simp
    · have h' : ¬ i = x := fun e => h e.symm
      simp [h, h']
theorem hIn_ints (i : Int) (xs : List Int) : hIn (.int i) (.list (xs.map .int)) = .ok (.bool (decide (i ∈ xs))) := by
  unfold hIn; simp only [shaped_int, shaped_ints, Bool.and_self, if_true, any_ints]
theorem hNotIn_ints (i : Int) (xs : List Int) : hNotIn (.int i) (.list (xs.map .int)) = .ok (.bool (!decide (i ∈ xs))) := by
  unfold hNotIn; simp only [shaped_int, shaped_ints, Bool.and_self, if_true, any_ints]
theorem hIn_intsT (i : Int) (xs : List Int) : hIn (.int i) (.tuple (xs.map .int)) = .ok (.bool (decide (i ∈ xs))) := by
  unfold hIn; simp only [shaped_int, shaped_intsT, Bool.and_self, if_true, any_ints]
theorem hNotIn_intsT (i : Int) (xs : List Int) : hNotIn (.int i) (.tuple (xs.map .int)) = .ok (.bool (!decide (i ∈ xs))) := by
  unfold hNotIn; simp only [shaped_int, shaped_intsT, Bool.and_self, if_true, any_ints]
theorem hSorted_ints (xs : List Int) : one hSorted [.list (xs.map .int)] = .ok (.list ((isort xs).map .int)) := by
  unfold one hSorted; simp only [allI_map]
theorem pureA_ints : ∀ xs : List Int, pureA (xs.map .int) = true
  | [] => rfl
  | x :: xs => by rw [List.map_cons]; unfold pureA; rw [pureA_ints xs]; rfl
theorem atI_map {α β : Type} (f : α → β) {xs : List α} {i : Int} (h0 : 0 ≤ i) (h1 : i < xs.length) : L2.atI (xs.map f) i = some (f (xs[i.toNat]'(by omega))) := by
  obtain ⟨j, rfl⟩ : ∃ j : Nat, i = j := ⟨i.toNat, by omega⟩
  have hj : j < xs.length := by omega
  refine L2.atI_nat ?_
  rw [List.getElem?_map, List.getElem?_eq_getElem hj]
  rfl
theorem hIx_l {ds : List Dt} {i : Int} {z : Dt} (h : L2.atI ds i = some z) : hIx (.list ds) (.int i) = .ok z := by unfold hIx; simp only [h]
theorem hIx_t {ds : List Dt} {i : Int} {z : Dt} (h : L2.atI ds i = some z) : hIx (.tuple ds) (.int i) = .ok z := by unfold hIx; simp only [h]
theorem hIx_ints {xs : List Int} {i : Int} (h0 : 0 ≤ i) (h1 : i < xs.length) : hIx (.list (xs.map .int)) (.int i) = .ok (.int (xs[i.toNat]'(by omega))) := hIx_l (atI_map _ h0 h1)
theorem sIx_none (n d : Nat) : HT.sIx n d none = d := rfl
theorem cutD_from {α : Type} (f : α → Dt) (xs : List α) (k : Nat) : cutD (xs.map f) (some (k : Int)) none = (xs.drop k).map f := by
  unfold cutD
  rw [HT.sIx_nat, sIx_none, List.length_map]
  rcases Nat.lt_or_ge k xs.length with h | h
  · rw [Nat.min_eq_left (Nat.le_of_lt h), ← List.map_drop, List.take_of_length_le (by rw [List.length_map, List.length_drop]; omega)]
  · rw [Nat.min_eq_right h, List.drop_of_length_le (by rw [List.length_map]; omega), List.drop_of_length_le h]
    simp
theorem cutD_to {α : Type} (f : α → Dt) (xs : List α) (k : Nat) : cutD (xs.map f) none (some (k : Int)) = (xs.take k).map f := by
  unfold cutD
  rw [HT.sIx_nat, sIx_none, List.length_map, List.drop_zero, Nat.sub_zero, ← List.map_take]
  rcases Nat.lt_or_ge k xs.length with h | h
  · rw [Nat.min_eq_left (Nat.le_of_lt h)]
  · rw [Nat.min_eq_right h, List.take_of_length_le (Nat.le_refl _), List.take_of_length_le h]
theorem hSl_from {α : Type} (f : α → Dt) (xs : List α) (k : Nat) : hSl (.list (xs.map f)) (some (k : Int)) none = .ok (.list ((xs.drop k).map f)) := by unfold hSl; rw [← cutD_from]
theorem hSl_to {α : Type} (f : α → Dt) (xs : List α) (k : Nat) : hSl (.list (xs.map f)) none (some (k : Int)) = .ok (.list ((xs.take k).map f)) := by unfold hSl; rw [← cutD_to]
theorem hCat_l {xs ys : List Dt} (h : xs.length + ys.length ≤ 100000) : hCat (.list xs) (.list ys) = .ok (.list (xs ++ ys)) := by unfold hCat; simp only [h, if_true]
theorem hCat_map {α : Type} (f : α → Dt) (xs ys : List α) (h : xs.length + ys.length ≤ 100000) : hCat (.list (xs.map f)) (.list (ys.map f)) = .ok (.list ((xs ++ ys).map f)) := by
  rw [hCat_l (by rw [List.length_map, List.length_map]; exact h), List.map_append]
theorem hRep_l {xs : List Dt} {k : Int} (h0 : 0 ≤ k) (h1 : k < 100) (h : xs.length ≤ 1000) : hRep (.list xs) (.int k) = .ok (.list (List.replicate k.toNat xs).flatten) := by
  unfold hRep
  simp only
  rw [if_pos]
  refine ⟨by omega, by omega, ?_⟩
  have : xs.length * k.toNat ≤ 1000 * 100 := Nat.mul_le_mul h (by omega)
  omega

/-! ### sorting ints -/
theorem isort_eq {a b : List Int} (p : a.Perm b) : isort a = isort b := sorted_unique ((isort_perm a).trans (p.trans (isort_perm b).symm)) (isort_sorted a) (isort_sorted b)
theorem isort_id {a : List Int} (h : a.Pairwise (· ≤ ·)) : isort a = a := sorted_unique (isort_perm a) (isort_sorted a) h
theorem seq_step {a b : Gs} {ρ ρ' : List Dt} {z : O Fl} (h : a ρ = .ok (.nx ρ')) (k : b ρ' = z) : gSeqS a b ρ = z := by rw [seq_nx h]; exact k
theorem gCallN_def (n : Nat) (g : List Dt → O Dt) (gA : List Dt → O (List Dt)) (ρ : List Dt) : gCallN n g gA ρ = bnd (gA ρ) fun ds => if ds.length = n then (match g ds with | .ok d => .ok d | _ => .bad) else .bad := rfl
theorem gAsg_def (g : Gd) (h : Dt → List Dt → O (List Dt)) (ρ : List Dt) : gAsg g h ρ = bnd (g ρ) fun d => match h d ρ with | .ok ρ' => .ok (.nx ρ') | _ => .bad := rfl
theorem gSl_def (h : Dt → Option Int → Option Int → O Dt) (g : Gd) (gl gh : List Dt → O (Option Int)) (ρ : List Dt) : gSl h g gl gh ρ = bnd (g ρ) fun d => bnd (gl ρ) fun lo => bnd (gh ρ) fun hi => h d lo hi := rfl
theorem gNoPart_def (ρ : List Dt) : gNoPart ρ = .ok none := rfl
theorem gPart_def (g : Gd) (ρ : List Dt) : gPart g ρ = bnd (g ρ) fun d => match d with | .int i => .ok (some i) | _ => .bad := rfl
theorem hSl_from' {α : Type} (f : α → Dt) (xs : List α) {k : Int} (h : 0 ≤ k) : hSl (.list (xs.map f)) (some k) none = .ok (.list ((xs.drop k.toNat).map f)) := by
  have := hSl_from f xs k.toNat
  rwa [show ((k.toNat : Nat) : Int) = k by omega] at this
theorem hSl_to' {α : Type} (f : α → Dt) (xs : List α) {k : Int} (h : 0 ≤ k) : hSl (.list (xs.map f)) none (some k) = .ok (.list ((xs.take k.toNat).map f)) := by
  have := hSl_to f xs k.toNat
  rwa [show ((k.toNat : Nat) : Int) = k by omega] at this
/-- the places -/
def pl (n : Int) : List Int := (List.range n.toNat).map fun (i : Nat) => (i : Int)
theorem rangeD_pl (n : Int) : rangeD 0 n = (pl n).map .int := by
  unfold rangeD pl
  rw [List.map_map, Int.sub_zero]
  apply List.map_congr_left
  intro i _
  show PyData.int (0 + (i : Int)) = PyData.int (i : Int)
  rw [Int.zero_add]
theorem mem_pl {n p : Int} : p ∈ pl n ↔ 0 ≤ p ∧ p < n := by
  unfold pl
  rw [List.mem_map]
  constructor
  · rintro ⟨i, h, rfl⟩
    rw [List.mem_range] at h
    omega
  · rintro ⟨h1, h2⟩
    exact ⟨p.toNat, List.mem_range.mpr (by omega), by omega⟩
theorem pl_len (n : Int) : (pl n).length = n.toNat := by unfold pl; rw [List.length_map, List.length_range]
theorem pl_nodup (n : Int) : (pl n).Nodup := by
  unfold pl
  refine List.Pairwise.map _ (fun a b h => ?_) List.nodup_range
  omega
theorem pl_sorted (n : Int) : (pl n).Pairwise (· < ·) := by
  unfold pl
  refine List.Pairwise.map _ (fun a b h => ?_) List.pairwise_lt_range
  omega
theorem map_snoc (xs : List Int) (z : Int) : xs.map PyData.int ++ [PyData.int z] = (xs ++ [z]).map PyData.int := by rw [List.map_append]; rfl
end Sim
end T_SimP

section T_SimI
set_option Elab.async false
set_option linter.all false
set_option maxRecDepth 100000
/-! SimI: isinstance, what is never reached, enumerate, reversed, zip, list(range), list(reversed). -/
namespace Sim
open PySem PySem.Spec L2
open PyProof.Rows hiding St

/-! ### list(reversed(list)) -/
section
variable {prog : Program} {w : World} {A : Around} {E : Value → Shared → Prop} {s : Shared}
theorem extend_rev {R : Result → Shared → Prop} {it l : Addr} {items : Array Value} (hh : A.handled = none) (hit : s.heap.IsRevIter it l ((items.size : Int) - 1)) (hl : s.heap.IsList l items) (hne : l ≠ it) (hn : items.size ≤ sizeLine)
    (S : Addr) (res : Value) {c₀ : Nat} (hS : s.heap.get? S = some { cls := .type "list", data := .seq #[] c₀ })
    (hSi : S ≠ it) (hSl : S ≠ l)
    (hR : ∀ h' tk acc' c', (∀ b o, b ≠ S → b ≠ it → s.heap.get? b = some o → h'.get? b = some o) → h'.get? S = some { cls := .type "list", dict := none, data := .seq acc' c', slots := #[] } →
      ItemsOf (fun i v => items[items.size - 1 - i]? = some v) acc' items.size → R (.ok (.ret res)) { s with heap := h', toks := tk }) :
    wpAny (model prog w) A.in1 (Builtin.List.listExtendWith (.ref S) (.ref it) res)
      (fun fin s' => match fin with | .done f => R (.ok f) s' | .again c' => c'.quiet = true ∧ codeAny (model prog w) A c' R s') (fun e s' => R (.error e) s') s := by
  have W := (Walks.listRev (prog := prog) (w := w) (A := A.in1) hh it l hne items).toS
  have hSf : S ∉ [it, l] := by simp only [List.mem_cons, List.not_mem_nil, or_false, not_or]; exact ⟨hSi, hSl⟩
  have hT : s.TypeIs (.ref it) "list_reverseiterator" := hit.typeIs
  have h1 : Builtin.List.listSameRef (.ref S) (.ref it) = false := by simp [Builtin.List.listSameRef, hSi]
  unfold Builtin.List.listExtendWith
  refine wpAny_bind (wpAny_typeOf hT ?_)
  rw [if_neg (by rw [h1]; decide)]
  refine wpAny_bind (wpAny_pyIter_revIter hit ?_)
  refine wpAny_bind (wpAny_holding ?_)
  unfold Builtin.List.listLengthHint
  refine wpAny_bind (wpAny_specialOf hT RT.nolen_lri ?_)
  show wpAny _ A.in1 (specialOf (Value.ref it) (Str.ofString "__length_hint__") >>= _) _ _ _
  refine wpAny_bind (wpAny_specialOf hT RT.hint_lri ?_)
  generalize hid : ("list_reverseiterator.__length_hint__" : String) = id0
  wp_delta
  rw [show splitId id0 = some ("list_reverseiterator", "__length_hint__") from by subst hid; decide +kernel]
  subst hid
  refine wpAny_bind (wpAny_isInstance (b := true) hT (by rw [isSubtype_type]; kernel_rfl) ?_)
  refine wpAny_pure ?_
  rw [if_neg (by decide)]
  have e0 : ((items.size : Nat) : Int) - 1 - ((0 : Nat) : Int) = (items.size : Int) - 1 := by omega
  refine wpAny_pure ⟨plainId_quiet F.plain_extend_loop _, codeAny_extend_loopS W hn _ hSf _ items.size 0 _ _ _ rfl (Nat.zero_le _) ⟨Nat.zero_le _, by rw [e0]; exact hit, hl⟩ hS (ItemsOf.nil _) fun s' acc' c' hm hS' hacc => ?_⟩
  rw [Moved.eq_with hm]
  refine hR s'.heap s'.toks acc' c' (fun b o hb hb2 e => hm.heap b o (fun hmem => ?_) e) hS' hacc
  rcases List.mem_cons.mp hmem with e' | hmem
  · exact hb e'
  · exact hb2 (List.mem_singleton.mp hmem)
theorem list_init_rev {R : Result → Shared → Prop} {it l : Addr} {items : Array Value} (hh : A.handled = none) (hit : s.heap.IsRevIter it l ((items.size : Int) - 1)) (hl : s.heap.IsList l items) (hne : l ≠ it) (hn : items.size ≤ sizeLine)
    (S : Addr) (hS : s.heap.get? S = some { cls := .type "list", data := .seq #[] }) (hSi : S ≠ it) (hSl : S ≠ l)
    (hR : ∀ h' tk acc' c', (∀ b o, b ≠ S → b ≠ it → s.heap.get? b = some o → h'.get? b = some o) → h'.get? S = some { cls := .type "list", dict := none, data := .seq acc' c', slots := #[] } →
      ItemsOf (fun i v => items[items.size - 1 - i]? = some v) acc' items.size → R (.ok (.ret .none)) { s with heap := h', toks := tk }) :
    wpAny (model prog w) A.in1 (Builtin.«list.__init__» ⟨[.ref S, .ref it], []⟩)
      (fun fin s' => match fin with | .done f => R (.ok f) s' | .again c' => c'.quiet = true ∧ codeAny (model prog w) A c' R s') (fun e s' => R (.error e) s') s := by
  show wpAny _ _ (do let old ← Builtin.List.listItems (.ref S); Builtin.List.listUpdate (.ref S) (fun _ => #[]); letGo old.toList.reverse; Builtin.List.listExtendWith (.ref S) (.ref it) .none) _ _ s
  refine wpAny_bind ?_
  unfold Builtin.List.listItems
  refine wpAny_bind (wpAny_seqItems hS rfl (wpAny_pure ?_))
  show wpAny _ _ (updateSeq S (fun _ => #[]) >>= fun _ => letGo (#[] : Array Value).toList.reverse >>= fun _ => Builtin.List.listExtendWith (.ref S) (.ref it) .none) _ _ s
  refine wpAny_bind (wpAny_updateSeq hS rfl ?_)
  have hS₂ := Heap.get?_update_self (Obj.mapSeq (fun _ => (#[] : Array Value))) hS rfl
  have oth : ∀ b o, b ≠ S → s.heap.get? b = some o → (s.heap.update S (Obj.mapSeq (fun _ => (#[] : Array Value)))).get? b = some o :=
    fun b o hb e => (Heap.get?_update_other _ _ (Ne.symm hb)).trans e
  refine wpAny_bind (wpAny_letGo ?_)
  exact extend_rev (s := { s with heap := s.heap.update S (Obj.mapSeq (fun _ => (#[] : Array Value))) }) hh (hit.at fun o e => oth it o (Ne.symm hSi) e) (hl.at fun o e => oth l o (Ne.symm hSl) e) hne hn S .none hS₂ hSi hSl fun h' tk acc' c' hk hS' hacc =>
    hR h' tk acc' c' (fun b o hb hb2 e => hk b o hb hb2 (oth b o hb e)) hS' hacc
theorem call_list_rev {it l : Addr} {items : Array Value} {Q : Value → Shared → Prop} (hh : A.handled = none) (hit : s.heap.IsRevIter it l ((items.size : Int) - 1)) (hl : s.heap.IsList l items) (hne : l ≠ it) (hn : items.size ≤ sizeLine)
    (hQ : ∀ h' tk acc' c', (∀ b o, b ≠ it → s.heap.get? b = some o → h'.get? b = some o) →
      h'.get? s.heap.objs.size = some { cls := .type "list", dict := none, data := .seq acc' c', slots := #[] } → ItemsOf (fun i v => items[items.size - 1 - i]? = some v) acc' items.size → Q (.ref s.heap.objs.size) { s with heap := h', toks := tk }) :
    wpAny (model prog w) A (call (.type "list") [.ref it]) Q E s := by
  refine callType_codes (Q₁ := fun obj s₁ => obj = .ref s.heap.objs.size ∧ s₁ = { s with heap := s.heap.push { cls := .type "list", data := .seq #[] } }) F.called_list (F.typeCall_list_1 _) F.entry_list_init
    (code_list_new _ ⟨rfl, rfl⟩) fun obj s₁ h₁ => ?_
  obtain ⟨rfl, rfl⟩ := h₁
  have hS : (s.heap.push { cls := .type "list", data := .seq #[] }).get? s.heap.objs.size = some { cls := .type "list", data := .seq #[] } := Heap.get?_push_size _ rfl
  obtain ⟨oi, hoi, _⟩ := id hit
  obtain ⟨ol, hol, _⟩ := id hl
  refine ⟨⟨_, hS, rfl⟩, F.args_list_init_2 _ _, list_init_rev (A := A.in1) (s := { s with heap := s.heap.push { cls := .type "list", data := .seq #[] } }) hh (hit.at fun o e => Heap.get?_push_of_some _ e) (hl.push _) hne hn _ hS (Nat.ne_of_gt (Heap.lt_size hoi)) (Nat.ne_of_gt (Heap.lt_size hol)) fun h' tk acc' c' hk hS' hacc => ?_⟩
  exact ⟨rfl, hQ h' tk acc' c' (fun b o hb e => hk b o (Nat.ne_of_lt (Heap.lt_size e)) hb (Heap.get?_push_of_some _ e)) hS' hacc⟩
end
def tLstRev (K : PySem.W.Frag) (te : TE) : TE := fun σ H Q => te σ H fun v H1 => ∃ (a : Addr) (xs : List V), v = .ref a ∧ SqL K H1 a xs ∧ ∀ q, H1 q = none → Q (.ref q) (upd H1 q (.lst xs.reverse))
section
variable {X : Cx}
theorem pe_lstRev {e : Expr} {te : TE} {p p2 pos pos2 : Pos} (hc : X.calm = true) (hg : Gl X "list") (hm : X.mg "list" = none) (hg2 : Gl X "reversed") (hm2 : X.mg "reversed" = none) (he : PE X e te)
    (hs : starEach [e] X.env = (false, eval e X.env) :: starEach [] X.env := by rfl)
    (hs2 : starEach [.Call (.Name "reversed" p2) [e] [] pos2] X.env = (false, eval (.Call (.Name "reversed" p2) [e] [] pos2) X.env) :: starEach [] X.env := by rfl) :
    PE X (.Call (.Name "list" p) [.Call (.Name "reversed" p2) [e] [] pos2] [] pos) (tLstRev X.K te) := by
  refine ⟨fun pins s σ H Q I h => ?_⟩
  refine Call_ (ld_blt I hg hm boot_list (PyProof.Rows.callWith_type1 (args_cons (Call_ (ld_blt I hg2 hm2 PyProof.Rows.boot_reversed (PyProof.Rows.callWith_type1 (args_cons (thn (he.run pins s σ H _ I h) fun u s1 ⟨v, H1, I1, r1, q1⟩ => args_nil ?_) hs) hs rfl))) hs2) hs2 rfl))
  obtain ⟨a, xs, ev, hq, q⟩ := q1
  subst ev
  obtain rfl : u = Value.ref a := r1
  obtain ⟨its, rv, p', hz⟩ := I1.list hq
  refine call_reversed_list p'.isList (args_nil ?_)
  have k0 : ∀ b o, s1.heap.get? b = some o → (s1.heap.push (revObj a ((its.toArray.size : Int) - 1))).get? b = some o := fun b o e => Heap.get?_push_of_some _ e
  have I2 : Inv X pins σ H1 { s1 with heap := s1.heap.push (revObj a ((its.toArray.size : Int) - 1)) } := I1.kept (t' := s1.toks) k0
  obtain ⟨f0, f1, f2, f3, f4, f5⟩ := I1.fpOk (H' := H1) (b := s1.heap.objs.size) (Nat.le_refl _) (I1.hok.fresh (Nat.le_refl _))
  have hl := p'.isList
  obtain ⟨ol, hol, _⟩ := id hl
  have hne : a ≠ s1.heap.objs.size := Nat.ne_of_lt (Heap.lt_size hol)
  have hn : its.toArray.size ≤ sizeLine := by rw [List.size_toArray, ← rv.length]; exact hz
  refine call_list_rev (s := { s1 with heap := s1.heap.push (revObj a ((its.toArray.size : Int) - 1)) }) (I1.ok.hd hc) ⟨_, Heap.get?_push_size _ rfl, rfl, rfl⟩ (hl.push _) hne hn fun h' tk acc c' hk he' hi => ?_
  have I3 : Inv X pins σ H1 { s1 with heap := h', toks := tk } := I2.turned (t' := tk) (fun b o hb e => hk b o hb e) f0 f1 f3 f4 f5
  refine ⟨.ref (s1.heap.push (revObj a ((its.toArray.size : Int) - 1))).objs.size, upd H1 (s1.heap.push (revObj a ((its.toArray.size : Int) - 1))).objs.size (.lst xs.reverse), ?_, rfl, q _ (I2.hok.fresh (Nat.le_refl _))⟩
  refine I2.turnedNew (t' := tk) (ch := [s1.heap.objs.size]) (fun b o hb e => hk b o (fun z => hb (by simp [z])) e) (fun b hb => ?_) (Nat.le_refl _) (show ObjOk X.prog X.w _ _ _ (.lst xs.reverse) from ⟨by rw [List.length_reverse]; exact hz, acc.toList, c', RT.vals_rev rv hi, ?_⟩)
  · have e : b = s1.heap.objs.size := by simpa using hb
    subst e
    exact ⟨f0, f1, f2, f3, f4, f5⟩
  · rw [Array.toArray_toList]; exact he'
end

/-! ### isinstance -/
inductive Ty5 where
  | int | bool | str | list | tuple
def Ty5.nm : Ty5 → String
  | .int => "int"
  | .bool => "bool"
  | .str => "str"
  | .list => "list"
  | .tuple => "tuple"
def isaB (T : Ty5) : Dt → Option Bool
  | .none => some false
  | .bool _ => some (match T with | .bool => true | .int => true | _ => false)
  | .int _ => some (match T with | .int => true | _ => false)
  | .str _ => some (match T with | .str => true | _ => false)
  | .list _ => some (match T with | .list => true | _ => false)
  | .tuple _ => some (match T with | .tuple => true | _ => false)
  | .dict es => if exnL es then none else some false
def hIsa (T : Ty5) : Dt → O Dt := fun d => match isaB T d with
  | some b => .ok (.bool b)
  | none => .bad
theorem scl_isa {T : Ty5} : Scl1 (hIsa T) := fun d => by
  unfold hIsa
  cases isaB T d with
  | none => exact .inr rfl
  | some b => exact .inl ⟨_, rfl, rfl⟩
section
variable {K : PySem.W.Frag} {W : Wt} {Δ : List Kd} {te : TE} {g : Gd} {av fr : Bool} {T : Ty5}
theorem kit_non : PySem.W.kitOne K (.type "NoneType") (.type T.nm) = some false := by cases T <;> exact kit_ty (by decide +kernel)
theorem kit_bl : PySem.W.kitOne K (.type "bool") (.type T.nm) = some (match T with | .bool => true | .int => true | _ => false) := by cases T <;> exact kit_ty (by decide +kernel)
theorem kit_int : PySem.W.kitOne K (.type "int") (.type T.nm) = some (match T with | .int => true | _ => false) := by cases T <;> exact kit_ty (by decide +kernel)
theorem kit_str : PySem.W.kitOne K (.type "str") (.type T.nm) = some (match T with | .str => true | _ => false) := by cases T <;> exact kit_ty (by decide +kernel)
theorem kit_list : PySem.W.kitOne K (.type "list") (.type T.nm) = some (match T with | .list => true | _ => false) := by cases T <;> exact kit_ty (by decide +kernel)
theorem kit_dict : PySem.W.kitOne K (.type "dict") (.type T.nm) = some false := by cases T <;> exact kit_ty (by decide +kernel)
theorem kit_tuple : PySem.W.kitOne K (.type "tuple") (.type T.nm) = some (match T with | .tuple => true | _ => false) := by cases T <;> exact kit_ty (by decide +kernel)
theorem rp_isa {F : Addr → Prop} {H : Hp} {v : V} {d : Dt} {b : Bool} (h : Rp K F H v d) (e : isaB T d = some b) : ∃ t, TyX K H v t ∧ PySem.W.kitOne K t (.type T.nm) = some b := by
  cases h with
  | non => cases e; exact ⟨_, .base .non, kit_non⟩
  | bl x => cases e; exact ⟨_, .base (.bl x), kit_bl⟩
  | int x => cases e; exact ⟨_, .base (.int x), kit_int⟩
  | str x => cases e; exact ⟨_, .base (.str x), kit_str⟩
  | lst hp _ _ => cases e; exact ⟨_, .base (.lst hp), kit_list⟩
  | fz hp _ =>
    cases e
    rcases hp with ⟨o, hp⟩ | ⟨o, its, n, hp, hc, _⟩
    · exact ⟨_, .base (.frz hp), kit_list⟩
    · exact ⟨_, .kList hp hc, kit_list⟩
  | tup hp _ =>
    cases e
    rcases hp with (hp | ⟨o, hp⟩) | ⟨o, its, n, hp, hc, _⟩
    · exact ⟨_, .base (.tup hp), kit_tuple⟩
    · exact ⟨_, .fTuple hp, kit_tuple⟩
    · exact ⟨_, .kTuple hp hc, kit_tuple⟩
  | @dic _ _ es hp _ _ _ =>
    have e : (if exnL es = true then none else some false) = some b := e
    cases hx : exnL es with
    | true => rw [hx] at e; cases e
    | false => rw [hx] at e; cases e; exact ⟨_, .base (.dK hp), kit_dict⟩
  | exn _ _ _ => cases e
theorem se_isa (ha : SE K W Δ te (.v av fr) g) : SE K W Δ (tCB (rIsi K) (tCons te (tCons (tC (.ty T.nm)) tNil))) (.v true true) (gUn (hIsa T) g) := fun f ρ σ H Q R q => by
  refine ha f ρ σ H _ R ?_
  unfold gUn at q
  cases e1 : g ρ with
  | bad => rw [e1] at q; exact q
  | ex z => rw [e1] at q; exact q
  | ok d =>
    rw [e1, bnd_ok] at q
    intro v H1 s1 x1
    unfold hIsa at q
    cases e2 : isaB T d with
    | none => rw [e2] at q; exact q.elim
    | some b =>
      rw [e2] at q
      obtain ⟨t, h1, h2⟩ := rp_isa x1 e2
      exact ⟨v, .ty T.nm, t, .type T.nm, b, rfl, .ty _, h1, h2, q _ H1 s1 (.bl b)⟩
end
section
variable {X : Cx} {K : PySem.W.Frag} {W : Wt} {Δ Δn Δb Δc : List Kd} {a b e : Expr} {es : List Expr} {ta tb te : TE} {tA : TA} {g ga : Gd} {gA : List Dt → O (List Dt)} {av fr : Bool} {L : Lk} {pos : Pos} {st : Stmt}
theorem x_isa (T : Ty5) {x : Str} {p p2 : Pos} (hm : X.mg "isinstance" = none) (hm2 : X.mg x = none) (h : PD X K W Δ e te (.v av fr) g) (hv : bootBuiltins x = some (.type T.nm) := by decide +kernel) (hg2 : Gl X x := by rfl) (hn : x ≠ "__name__" := by decide) (hdb : (x == ("__debug__" : Str)) = false := by decide)
    (hg : Gl X "isinstance" := by rfl)
    (he : starEach [e, .Name x p2] X.env = (false, eval e X.env) :: starEach [.Name x p2] X.env := by rfl) (he2 : starEach [.Name x p2] X.env = (false, eval (.Name x p2) X.env) :: starEach [] X.env := by rfl) (hpl : (backTo pos (starEach [.Name x p2] X.env)).any (·.1) = false := by rfl) :
    PD X K W Δ (.Call (.Name "isinstance" p) [e, .Name x p2] [] pos) (tCB (rIsi K) (tCons te (tCons (tC (.ty T.nm)) tNil))) (.v true true) (gUn (hIsa T) g) :=
  ⟨pe_callB (by have q := call_isi (X := X); rw [h.hK] at q; exact q) hg hm (by decide +kernel) (pa_cons h.pe (pa_cons (pe_bltn hg2 hm2 hv rfl hn hdb) pa_nil he2) he) (by decide) (by decide) he hpl, h.hK, se_isa h.se⟩

/-! ### what is never reached -/
def gBad : Gs := fun _ => .bad
theorem z_never (hK : X.K = K := by rfl) : SD X K W L Δ Δn Δb Δc st tNever gBad := ⟨ps_never, hK, fun f ρ σ H E r q => q.elim⟩

/-! ### enumerate, reversed, zip -/
def lst1 : List Dt → Option (List Dt)
  | [.list es] => some es
  | _ => none
def lst2 : List Dt → Option (List Dt × List Dt)
  | [.list es, .list es2] => some (es, es2)
  | _ => none
theorem lst1_inv {ds es : List Dt} (h : lst1 ds = some es) : ds = [.list es] := by
  unfold lst1 at h
  split at h
  · cases h; rfl
  · cases h
theorem lst2_inv {ds : List Dt} {p : List Dt × List Dt} (h : lst2 ds = some p) : ds = [.list p.1, .list p.2] := by
  unfold lst2 at h
  split at h
  · cases h; rfl
  · cases h
def enumD (es : List Dt) : List Dt := es.zipIdx.map fun p => .tuple [.int (p.2 : Nat), p.1]
def zipD (es es2 : List Dt) : List Dt := (es.zip es2).map fun p => .tuple [p.1, p.2]
def gEnum (gA : List Dt → O (List Dt)) : List Dt → O (List Dt) := fun ρ => bnd (gA ρ) fun ds => match lst1 ds with
  | some es => .ok (enumD es)
  | none => .bad
def gRev (gA : List Dt → O (List Dt)) : List Dt → O (List Dt) := fun ρ => bnd (gA ρ) fun ds => match lst1 ds with
  | some es => .ok es.reverse
  | none => .bad
def gZip (gA : List Dt → O (List Dt)) : List Dt → O (List Dt) := fun ρ => bnd (gA ρ) fun ds => match lst2 ds with
  | some p => .ok (zipD p.1 p.2)
  | none => .bad
theorem sc_enum {c : Addr} {es : List Dt} : Sc K (Ite K c) none [.ref c] [.list es] (enumD es) where
  goes := fun i H hi ⟨_, F, r⟩ => by
    cases r with
    | cons h _ =>
      obtain ⟨b, xs, e, hs, r⟩ := h.sql
      cases e
      have hx : i < xs.length := by rw [r.length]; unfold enumD at hi; simpa using hi
      exact ⟨xs, xs[i], hs, List.getElem?_eq_getElem hx⟩
  stops := fun H ⟨_, F, r⟩ => by
    cases r with
    | cons h _ =>
      obtain ⟨b, xs, e, hs, r⟩ := h.sql
      cases e
      exact ⟨xs, hs, by rw [r.length]; unfold enumD; simp⟩
  yields := fun i H x H' hi _ y => by
    obtain ⟨T, z, e, nT, eH, y⟩ := y
    subst e eH
    refine ⟨same_upd nT, fun F r => ?_⟩
    cases r with
    | cons h _ =>
      obtain ⟨b, xs, e, hs, r⟩ := h.sql
      cases e
      obtain ⟨d, h1, h2⟩ := r.get (y xs hs)
      refine ⟨.tuple [.int (i : Nat), d], ?_, .tup (.inl (.inl upd_same)) (.cons (.int _) (.cons (h2.same (same_upd nT)) .nil))⟩
      unfold enumD
      rw [List.getElem?_map, List.getElem?_zipIdx, h1]
      simp
theorem sc_rev {c : Addr} {es : List Dt} {n : Nat} (hn : n = es.length) : Sc K (Itv K c n) none [.ref c] [.list es] es.reverse where
  goes := fun i H hi ⟨_, F, r⟩ => by
    cases r with
    | cons h _ =>
      obtain ⟨b, xs, e, hs, r⟩ := h.sql
      cases e
      rw [List.length_reverse] at hi
      have hx : n - 1 - i < xs.length := by rw [r.length]; omega
      exact ⟨by omega, xs, _, hs, List.getElem?_eq_getElem hx⟩
  stops := fun H _ => by rw [List.length_reverse]; exact Nat.le_of_eq hn
  yields := fun i H x H' hi _ y => by
    obtain ⟨e, y⟩ := y
    subst e
    refine ⟨Same.refl _, fun F r => ?_⟩
    cases r with
    | cons h _ =>
      obtain ⟨b, xs, e, hs, r⟩ := h.sql
      cases e
      obtain ⟨d, h1, h2⟩ := r.get (y xs hs)
      rw [List.length_reverse] at hi
      exact ⟨d, by rw [List.getElem?_reverse hi, ← hn]; exact h1, h2⟩
theorem sc_zip {c c2 : Addr} {es es2 : List Dt} : Sc K (Itz K c c2) none [.ref c, .ref c2] [.list es, .list es2] (zipD es es2) where
  goes := fun i H hi ⟨_, F, r⟩ => by
    cases r with
    | cons h r2 =>
      cases r2 with
      | cons h2 _ =>
        obtain ⟨b, xs, e, hs, r⟩ := h.sql
        cases e
        obtain ⟨b, xs2, e, hs2, r2⟩ := h2.sql
        cases e
        have hl : i < es.length ∧ i < es2.length := by unfold zipD at hi; rw [List.length_map, List.length_zip] at hi; omega
        exact ⟨xs, xs2, _, _, hs, hs2, List.getElem?_eq_getElem (by rw [r.length]; exact hl.1), List.getElem?_eq_getElem (by rw [r2.length]; exact hl.2)⟩
  stops := fun H ⟨_, F, r⟩ => by
    cases r with
    | cons h r2 =>
      cases r2 with
      | cons h2 _ =>
        obtain ⟨b, xs, e, hs, r⟩ := h.sql
        cases e
        obtain ⟨b, xs2, e, hs2, r2⟩ := h2.sql
        cases e
        refine ⟨xs, xs2, hs, hs2, ?_⟩
        unfold zipD
        rw [List.length_map, List.length_zip, r.length, r2.length]
        omega
  yields := fun i H x H' hi _ y => by
    obtain ⟨T, z, z2, e, nT, eH, y, y2⟩ := y
    subst e eH
    refine ⟨same_upd nT, fun F r => ?_⟩
    cases r with
    | cons h r2 =>
      cases r2 with
      | cons h2 _ =>
        obtain ⟨b, xs, e, hs, r⟩ := h.sql
        cases e
        obtain ⟨b, xs2, e, hs2, r2⟩ := h2.sql
        cases e
        obtain ⟨d, h1, h1'⟩ := r.get (y xs hs)
        obtain ⟨d2, h2, h2'⟩ := r2.get (y2 xs2 hs2)
        refine ⟨.tuple [d, d2], ?_, .tup (.inl (.inl upd_same)) (.cons (h1'.same (same_upd nT)) (.cons (h2'.same (same_upd nT)) .nil))⟩
        unfold zipD
        rw [List.getElem?_map, List.getElem?_zip_eq_some (z := (d, d2)) |>.mpr ⟨h1, h2⟩]
        rfl
theorem si_enum (h : SA K W Δ tA true fr gA) : SI K W Δ (iEnum K tA) false fr (gEnum gA) := fun f ρ σ H Rk R q => by
  refine h f ρ σ H _ R ?_
  unfold gEnum at q
  cases e1 : gA ρ with
  | bad => rw [e1] at q; exact q
  | ex z => rw [e1] at q; exact q
  | ok ds =>
    rw [e1, bnd_ok] at q
    intro vs H1 s1 x1
    cases er : lst1 ds with
    | none => rw [er] at q; exact q.elim
    | some es =>
      rw [er] at q
      have e := lst1_inv er
      subst e
      have x0 := x1
      cases x1 with
      | cons x1 xr =>
        cases xr
        obtain ⟨c, xs, rfl, hs, r⟩ := x1.sql
        exact ⟨c, xs, rfl, hs, q _ H1 none [.ref c] [.list es] s1 (fun _ => rfl) (fun _ e => nomatch e) x0 sc_enum⟩
theorem si_rev (h : SA K W Δ tA true fr gA) : SI K W Δ (iRev K tA) false fr (gRev gA) := fun f ρ σ H Rk R q => by
  refine h f ρ σ H _ R ?_
  unfold gRev at q
  cases e1 : gA ρ with
  | bad => rw [e1] at q; exact q
  | ex z => rw [e1] at q; exact q
  | ok ds =>
    rw [e1, bnd_ok] at q
    intro vs H1 s1 x1
    cases er : lst1 ds with
    | none => rw [er] at q; exact q.elim
    | some es =>
      rw [er] at q
      have e := lst1_inv er
      subst e
      have x0 := x1
      cases x1 with
      | cons x1 xr =>
        cases xr
        obtain ⟨c, xs, rfl, hs, r⟩ := x1.sql
        exact ⟨c, xs, rfl, hs, q _ H1 none [.ref c] [.list es] s1 (fun _ => rfl) (fun _ e => nomatch e) x0 (sc_rev r.length)⟩
theorem si_zip (h : SA K W Δ tA true fr gA) : SI K W Δ (iZip K tA) false fr (gZip gA) := fun f ρ σ H Rk R q => by
  refine h f ρ σ H _ R ?_
  unfold gZip at q
  cases e1 : gA ρ with
  | bad => rw [e1] at q; exact q
  | ex z => rw [e1] at q; exact q
  | ok ds =>
    rw [e1, bnd_ok] at q
    intro vs H1 s1 x1
    cases er : lst2 ds with
    | none => rw [er] at q; exact q.elim
    | some p =>
      rw [er] at q
      have e := lst2_inv er
      subst e
      have x0 := x1
      cases x1 with
      | cons x1 xr =>
        cases xr with
        | cons x2 xr =>
          cases xr
          obtain ⟨c, xs, rfl, hs, r⟩ := x1.sql
          obtain ⟨c2, xs2, rfl, hs2, r2⟩ := x2.sql
          exact ⟨c, c2, xs, xs2, rfl, hs, hs2, q _ H1 none [.ref c, .ref c2] [.list p.1, .list p.2] s1 (fun _ => rfl) (fun _ e => nomatch e) x0 sc_zip⟩
theorem i_enum {p tpos : Pos} {elts : List Expr} {kk : Nat} (hm : X.mg "enumerate" = none) (h : AD X K W Δ [a] tA true fr gA) (hg : Gl X "enumerate" := by rfl) (hs : starEach [a] X.env = [(false, eval a X.env)] := by rfl) : ID X K W Δ (.Tuple elts kk tpos) (.Call (.Name "enumerate" p) [a] [] pos) (iEnum K tA) false fr (gEnum gA) :=
  ⟨by have q := pi_enum (X := X) (tpos := tpos) (elts := elts) (kk := kk) (p := p) (pos := pos) hg hm h.pa hs; rw [h.hK] at q; exact q, h.hK, si_enum h.sa⟩
theorem i_rev {tg : Expr} {p : Pos} (hm : X.mg "reversed" = none) (h : AD X K W Δ [a] tA true fr gA) (hg : Gl X "reversed" := by rfl) (hs : starEach [a] X.env = [(false, eval a X.env)] := by rfl) : ID X K W Δ tg (.Call (.Name "reversed" p) [a] [] pos) (iRev K tA) false fr (gRev gA) :=
  ⟨by have q := pi_reversed (X := X) (tg := tg) (p := p) (pos := pos) hg hm h.pa hs; rw [h.hK] at q; exact q, h.hK, si_rev h.sa⟩
theorem i_zip {p tpos : Pos} {elts : List Expr} {kk : Nat} (hm : X.mg "zip" = none) (h : AD X K W Δ [a, b] tA true fr gA) (hg : Gl X "zip" := by rfl) (hs : starEach [a, b] X.env = (false, eval a X.env) :: starEach [b] X.env := by rfl) (hpl : (backTo pos (starEach [b] X.env)).any (·.1) = false := by rfl) : ID X K W Δ (.Tuple elts kk tpos) (.Call (.Name "zip" p) [a, b] [] pos) (iZip K tA) false fr (gZip gA) :=
  ⟨by have q := pi_zip (X := X) (tpos := tpos) (elts := elts) (kk := kk) (p := p) (pos := pos) hg hm h.pa hs hpl; rw [h.hK] at q; exact q, h.hK, si_zip h.sa⟩

/-! ### list(range), list(reversed) -/
def gLsI (gI : List Dt → O (List Dt)) : Gd := fun ρ => bnd (gI ρ) fun ds => if ds.length ≤ 100000 then .ok (.list ds) else .bad
theorem rpA_mapInt {F : Addr → Prop} {H : Hp} {α : Type} (f : α → Int) : ∀ l : List α, RpA K F H (l.map fun i => V.int (f i)) (l.map fun i => PyData.int (f i))
  | [] => .nil
  | x :: l => .cons (.int _) (rpA_mapInt f l)
theorem se_lrng1 (ha : SE K W Δ te (.v av fr) g) : SE K W Δ (tLstRg (tRg1 te)) (.new .l true) (gLsI (gRng1 (gCons g gNil))) := fun f ρ σ H Q R q => by
  refine ha f ρ σ H _ R ?_
  unfold gLsI gRng1 gCons gNil at q
  cases e1 : g ρ with
  | bad => rw [e1] at q; exact q
  | ex z => rw [e1] at q; exact q
  | ok d =>
    rw [e1, bnd_ok, bnd_ok, bnd_ok] at q
    intro v H1 s1 x1
    cases er : rng1 [d] with
    | none => rw [er] at q; exact q.elim
    | some p =>
      rw [er] at q
      unfold rng1 at er
      split at er
      · split at er
        · rename_i hj
          obtain ⟨e, e'⟩ := List.cons.inj ‹[d] = _›
          rename_i j h2
          cases er
          subst e
          rw [rpInt x1]
          simp only [bnd_ok] at q
          by_cases l : (rangeD 0 j).length ≤ 100000
          · rw [if_pos l] at q
            rw [rangeD_len] at l
            refine ⟨j, rfl, ⟨by omega, by omega, hj.1, hj.2, by omega⟩, fun p np => q p _ (s1.free np) (s1.trans (same_upd np)) ⟨_, _, rfl, upd_same, ?_⟩⟩
            exact rpA_mapInt _ _
          · rw [if_neg l] at q
            exact q.elim
        · cases er
      · cases er
theorem se_lrng2 (ha : SE K W Δ ta (.v av fr) ga) {av' fr' : Bool} (hb : SE K W Δ tb (.v av' fr') g) : SE K W Δ (tLstRg (tRg2 ta tb)) (.new .l true) (gLsI (gRng2 (gCons ga (gCons g gNil)))) := fun f ρ σ H Q R q => by
  refine ha f ρ σ H _ R ?_
  unfold gLsI gRng2 gCons gNil at q
  cases e1 : ga ρ with
  | bad => rw [e1] at q; exact q
  | ex z => rw [e1] at q; exact q
  | ok d =>
    rw [e1, bnd_ok] at q
    intro v H1 s1 x1
    refine hb f ρ σ H1 _ (R.mono s1) ?_
    cases e2 : g ρ with
    | bad => rw [e2] at q; exact q
    | ex z => rw [e2] at q; exact fun H' s => q H' (s1.trans s)
    | ok d2 =>
      rw [e2, bnd_ok, bnd_ok, bnd_ok, bnd_ok] at q
      intro v2 H2 s2 x2
      cases er : rng2 [d, d2] with
      | none => rw [er] at q; exact q.elim
      | some p =>
        rw [er] at q
        unfold rng2 at er
        split at er
        · split at er
          · rename_i hj
            obtain ⟨e, e'⟩ := List.cons.inj ‹[d, d2] = _›
            obtain ⟨e', _⟩ := List.cons.inj e'
            cases er
            subst e e'
            rw [rpInt x1, rpInt x2]
            simp only [bnd_ok] at q
            rename_i i j _ _
            by_cases l : (rangeD i j).length ≤ 100000
            · rw [if_pos l] at q
              rw [rangeD_len] at l
              refine ⟨i, j, rfl, rfl, ⟨hj.1, hj.2.1, hj.2.2.1, hj.2.2.2, by omega⟩, fun p np => q p _ ((s1.trans s2).free np) ((s1.trans s2).trans (same_upd np)) ⟨_, _, rfl, upd_same, ?_⟩⟩
              exact rpA_mapInt _ _
            · rw [if_neg l] at q
              exact q.elim
          · cases er
        · cases er
theorem se_lrev (ha : SE K W Δ te (.v true fr) g) : SE K W Δ (tLstRev K te) (.new .l fr) (gLsI (gRev (gCons g gNil))) := fun f ρ σ H Q R q => by
  refine ha f ρ σ H _ R ?_
  unfold gLsI gRev gCons gNil at q
  cases e1 : g ρ with
  | bad => rw [e1] at q; exact q
  | ex z => rw [e1] at q; exact q
  | ok d =>
    rw [e1, bnd_ok, bnd_ok, bnd_ok] at q
    intro v H1 s1 x1
    cases er : lst1 [d] with
    | none => rw [er] at q; exact q.elim
    | some es =>
      rw [er] at q
      have e := List.cons.inj (lst1_inv er)
      cases e.1
      simp only [bnd_ok] at q
      by_cases l : es.reverse.length ≤ 100000
      · rw [if_pos l] at q
        obtain ⟨c, xs, rfl, hs, r⟩ := x1.sql
        exact ⟨c, xs, rfl, hs, fun p np => q p _ (s1.free np) (s1.trans (same_upd np)) ⟨_, _, rfl, upd_same, r.reverse.mono (same_upd np) fun a y z => ⟨y, fun e => z (e ▸ np)⟩⟩⟩
      · rw [if_neg l] at q
        exact q.elim
theorem se_lrevO (ha : SE K W Δ te (.o fr) g) : SE K W Δ (tLstRev K te) (.new .l fr) (gLsI (gRev (gCons g gNil))) := fun f ρ σ H Q R q => by
  refine ha f ρ σ H _ R ?_
  unfold gLsI gRev gCons gNil at q
  cases e1 : g ρ with
  | bad => rw [e1] at q; exact q
  | ex z => rw [e1] at q; exact q
  | ok d =>
    rw [e1, bnd_ok, bnd_ok, bnd_ok] at q
    intro p H1 vs ds ed s1 hp gp x1
    subst ed
    simp only [bnd_ok, lst1] at q
    by_cases l : ds.reverse.length ≤ 100000
    · rw [if_pos l] at q
      exact ⟨p, vs, rfl, .inl (.inl hp), fun p np => q p _ (s1.free np) (s1.trans (same_upd np)) ⟨_, _, rfl, upd_same, x1.reverse.mono (same_upd np) fun a y z => ⟨y, fun e => z (e ▸ np)⟩⟩⟩
    · rw [if_neg l] at q
      exact q.elim
theorem x_lrng1 {p p2 pos2 : Pos} (hm : X.mg "list" = none) (hm2 : X.mg "range" = none) (h : PD X K W Δ a ta (.v av fr) ga) (hc : X.calm = true := by rfl) (hg : Gl X "list" := by rfl) (hg2 : Gl X "range" := by rfl)
    (na : starEach [a] X.env = (false, eval a X.env) :: starEach [] X.env := by rfl) (na2 : starEach [.Call (.Name "range" p2) [a] [] pos2] X.env = (false, eval (.Call (.Name "range" p2) [a] [] pos2) X.env) :: starEach [] X.env := by rfl) :
    PD X K W Δ (.Call (.Name "list" p) [.Call (.Name "range" p2) [a] [] pos2] [] pos) (tLstRg (tRg1 ta)) (.new .l true) (gLsI (gRng1 (gCons ga gNil))) := ⟨pe_listRg hc hg hm (prg_1 hg2 hm2 h.pe na) na2, h.hK, se_lrng1 h.se⟩
theorem x_lrng2 {av' fr' : Bool} {p p2 pos2 : Pos} (hm : X.mg "list" = none) (hm2 : X.mg "range" = none) (h : PD X K W Δ a ta (.v av fr) ga) (h' : PD X K W Δ b tb (.v av' fr') g) (hc : X.calm = true := by rfl) (hg : Gl X "list" := by rfl) (hg2 : Gl X "range" := by rfl)
    (na : starEach [a, b] X.env = (false, eval a X.env) :: starEach [b] X.env := by rfl) (nb : starEach [b] X.env = (false, eval b X.env) :: starEach [] X.env := by rfl) (hp : (backTo pos2 (starEach [b] X.env)).any (·.1) = false := by rfl)
    (na2 : starEach [.Call (.Name "range" p2) [a, b] [] pos2] X.env = (false, eval (.Call (.Name "range" p2) [a, b] [] pos2) X.env) :: starEach [] X.env := by rfl) :
    PD X K W Δ (.Call (.Name "list" p) [.Call (.Name "range" p2) [a, b] [] pos2] [] pos) (tLstRg (tRg2 ta tb)) (.new .l true) (gLsI (gRng2 (gCons ga (gCons g gNil)))) := ⟨pe_listRg hc hg hm (prg_2 hg2 hm2 h.pe h'.pe na nb hp) na2, h.hK, se_lrng2 h.se h'.se⟩
theorem x_lrev {p p2 pos2 : Pos} (hm : X.mg "list" = none) (hm2 : X.mg "reversed" = none) (h : PD X K W Δ a ta (.v true fr) ga) (hc : X.calm = true := by rfl) (hg : Gl X "list" := by rfl) (hg2 : Gl X "reversed" := by rfl)
    (na : starEach [a] X.env = (false, eval a X.env) :: starEach [] X.env := by rfl) (na2 : starEach [.Call (.Name "reversed" p2) [a] [] pos2] X.env = (false, eval (.Call (.Name "reversed" p2) [a] [] pos2) X.env) :: starEach [] X.env := by rfl) :
    PD X K W Δ (.Call (.Name "list" p) [.Call (.Name "reversed" p2) [a] [] pos2] [] pos) (tLstRev K ta) (.new .l fr) (gLsI (gRev (gCons ga gNil))) := ⟨by have q := pe_lstRev (X := X) (p := p) (p2 := p2) (pos := pos) (pos2 := pos2) hc hg hm hg2 hm2 h.pe na na2; rw [h.hK] at q; exact q, h.hK, se_lrev h.se⟩
theorem x_lrevO {p p2 pos2 : Pos} (hm : X.mg "list" = none) (hm2 : X.mg "reversed" = none) (h : PD X K W Δ a ta (.o fr) ga) (hc : X.calm = true := by rfl) (hg : Gl X "list" := by rfl) (hg2 : Gl X "reversed" := by rfl)
    (na : starEach [a] X.env = (false, eval a X.env) :: starEach [] X.env := by rfl) (na2 : starEach [.Call (.Name "reversed" p2) [a] [] pos2] X.env = (false, eval (.Call (.Name "reversed" p2) [a] [] pos2) X.env) :: starEach [] X.env := by rfl) :
    PD X K W Δ (.Call (.Name "list" p) [.Call (.Name "reversed" p2) [a] [] pos2] [] pos) (tLstRev K ta) (.new .l fr) (gLsI (gRev (gCons ga gNil))) := ⟨by have q := pe_lstRev (X := X) (p := p) (p2 := p2) (pos := pos) (pos2 := pos2) hc hg hm hg2 hm2 h.pe na na2; rw [h.hK] at q; exact q, h.hK, se_lrevO h.se⟩
end
/-! ### range(i, j, -1) -/
def rng3 : List Dt → Option (Int × Int)
  | [.int i, .int j, .int c] => if c = -1 ∧ -(2 ^ 62) ≤ i ∧ i < 2 ^ 62 ∧ -(2 ^ 62) ≤ j ∧ j < 2 ^ 62 then some (i, j) else none
  | _ => none
theorem rng3_inv {ds : List Dt} {p : Int × Int} (h : rng3 ds = some p) : ds = [.int p.1, .int p.2, .int (-1)] ∧ -(2 ^ 62) ≤ p.1 ∧ p.1 < 2 ^ 62 ∧ -(2 ^ 62) ≤ p.2 ∧ p.2 < 2 ^ 62 := by
  unfold rng3 at h
  split at h
  · split at h
    · rename_i c
      cases h
      obtain ⟨e, c⟩ := c
      subst e
      exact ⟨rfl, c⟩
    · cases h
  · cases h
def downD (i j : Int) : List Dt := (List.range (i - j).toNat).map fun (k : Nat) => .int (i - (k : Int))
def gRng3 (g : List Dt → O (List Dt)) : List Dt → O (List Dt) := fun ρ => bnd (g ρ) fun ds => match rng3 ds with
  | some p => .ok (downD p.1 p.2)
  | none => .bad
section
variable {K : PySem.W.Frag} {W : Wt} {Δ : List Kd}
theorem downD_len (i j : Int) : (downD i j).length = (i - j).toNat := by unfold downD; simp
theorem sc_down {i j : Int} : Sc K (Itc i (-1) (i - j).toNat) none [] [] (downD i j) where
  goes := fun k H hi' _ => by rw [downD_len] at hi'; exact hi'
  stops := fun H _ => by rw [downD_len]; exact Nat.le_refl _
  yields := fun k H x H' hi' _ y => by
    obtain ⟨e, y⟩ := y
    subst e y
    refine ⟨Same.refl _, fun F r => ⟨_, ?_, .int _⟩⟩
    rw [downD_len] at hi'
    unfold downD
    rw [List.getElem?_map, List.getElem?_range hi']
    have e : i - (k : Int) = i + (k : Nat) * (-1) := by omega
    rw [← e]
    rfl
theorem si_rng3 {tA : TA} {gA : List Dt → O (List Dt)} {av fr : Bool} (h : SA K W Δ tA av fr gA) : SI K W Δ (iRng3 tA) false true (gRng3 gA) := fun f ρ σ H Rk R q => by
  refine h f ρ σ H _ R ?_
  unfold gRng3 at q
  cases e1 : gA ρ with
  | bad => rw [e1] at q; exact q
  | ex z => rw [e1] at q; exact q
  | ok ds =>
    rw [e1, bnd_ok] at q
    intro vs H1 s1 x1
    cases er : rng3 ds with
    | none => rw [er] at q; exact q.elim
    | some p =>
      rw [er] at q
      obtain ⟨e, b1, b2, b3, b4⟩ := rng3_inv er
      subst e
      cases x1 with
      | cons x1 xr =>
        cases xr with
        | cons x2 xr =>
          cases xr with
          | cons x3 xr =>
            cases xr
            rw [rpInt x1, rpInt x2, rpInt x3]
            exact ⟨p.1, p.2, -1, (p.1 - p.2).toNat, rfl, RgC.neg b1 b2 b3 b4, q _ H1 none [] [] s1 (fun _ => rfl) (fun _ e => nomatch e) .nil sc_down⟩
theorem i_rng3 {X : Cx} {tg a b c : Expr} {tA : TA} {gA : List Dt → O (List Dt)} {av fr : Bool} {pos p : Pos} (hm : X.mg "range" = none) (h : AD X K W Δ [a, b, c] tA av fr gA) (hg : Gl X "range" := by rfl)
    (hs : starEach [a, b, c] X.env = (false, eval a X.env) :: starEach [b, c] X.env := by rfl) (hpl : (backTo pos (starEach [b, c] X.env)).any (·.1) = false := by rfl) : ID X K W Δ tg (.Call (.Name "range" p) [a, b, c] [] pos) (iRng3 tA) false true (gRng3 gA) := ⟨pi_range3 hg hm h.pa hs hpl, h.hK, si_rng3 h.sa⟩
end
/-! ### << -/
def hShl := hI cPow fun i j => i * 2 ^ j.toNat
theorem x_shl {X : Cx} {K : PySem.W.Frag} {W : Wt} {Δ : List Kd} {a b : Expr} {ta tb : TE} {ga gb : Gd} {av fr av' fr' : Bool} {pos : Pos} (ha : PD X K W Δ a ta (.v av fr) ga) (hb : PD X K W Δ b tb (.v av' fr') gb) : PD X K W Δ (.BinOp a .LShift b pos) (tOp (rI CPow fun i j => .int (i * 2 ^ j.toNat)) ta tb) (.v true true) (gOp hShl ga gb) := ⟨pe_op op_shl ha.pe hb.pe, ha.hK, se_op scl_I (osc_I fun _ _ => cPow_ok) ha.se hb.se⟩
/-! ### plain lemmas -/
theorem gChain_def (h h' : Dt → Dt → O Dt) (ga gb gc : Gd) (ρ : List Dt) : gChain h h' ga gb gc ρ = bnd (ga ρ) fun x => bnd (gb ρ) fun y => bnd (h x y) fun z => bnd (asB z) fun c => if c then bnd (gc ρ) fun w => h' y w else .ok (.bool false) := rfl
theorem hIsa_int (i : Int) : hIsa .int (.int i) = .ok (.bool true) := rfl
theorem hIsa_intb (i : Int) : hIsa .bool (.int i) = .ok (.bool false) := rfl
theorem hIsa_list (x : List Dt) : hIsa .list (.list x) = .ok (.bool true) := rfl
theorem hIsa_tuple (x : List Dt) : hIsa .tuple (.tuple x) = .ok (.bool true) := rfl
theorem gDrop_def (g : Gd) (ρ : List Dt) : gDrop g ρ = bnd (g ρ) fun _ => .ok (.nx ρ) := rfl
theorem fnN_nx {m : Nat} {g : Gs} {ds ρ : List Dt} (h : g (ds ++ List.replicate (m - ds.length) .none) = .ok (.nx ρ)) : fnN m g ds = .ok .none := by unfold fnN; rw [h]
theorem lsI_ok {gI : List Dt → O (List Dt)} {ρ ds : List Dt} (h : gI ρ = .ok ds) (hl : ds.length ≤ 100000) : gLsI gI ρ = .ok (.list ds) := by unfold gLsI; rw [h, bnd_ok, if_pos hl]
theorem rev_ok {gA : List Dt → O (List Dt)} {ρ es : List Dt} (h : gA ρ = .ok [.list es]) : gRev gA ρ = .ok es.reverse := by unfold gRev; rw [h]; rfl
theorem enum_ok {gA : List Dt → O (List Dt)} {ρ es : List Dt} (h : gA ρ = .ok [.list es]) : gEnum gA ρ = .ok (enumD es) := by unfold gEnum; rw [h]; rfl
theorem zip_ok {gA : List Dt → O (List Dt)} {ρ es fs : List Dt} (h : gA ρ = .ok [.list es, .list fs]) : gZip gA ρ = .ok (zipD es fs) := by unfold gZip; rw [h]; rfl
theorem rng3_ok {g : List Dt → O (List Dt)} {ρ : List Dt} {i j : Int} (h : g ρ = .ok [.int i, .int j, .int (-1)]) (h1 : -4611686018427387904 ≤ j) (h2 : j < 4611686018427387904) (h3 : -4611686018427387904 ≤ i) (h4 : i < 4611686018427387904) : gRng3 g ρ = .ok (downD i j) := by
  unfold gRng3
  rw [h, bnd_ok]
  unfold rng3
  simp only
  rw [if_pos ⟨trivial, by omega, by omega, by omega, by omega⟩]
theorem hAll_b (xs : List Bool) : hAll [.list (xs.map .bool)] = .ok (.bool (xs.all id)) := by
  unfold hAll
  simp only [allB_map]
theorem setI_ok {i : Nat} {ge gi : Gd} {ρ ds : List Dt} {d : Dt} {j : Int} (h1 : ge ρ = .ok d) (h2 : ρ[i]? = some (.list ds)) (h3 : gi ρ = .ok (.int j)) (j0 : 0 ≤ j) (j1 : j < ds.length) : gSetI i ge gi ρ = .ok (.nx (ρ.set i (.list (ds.set j.toNat d)))) := by
  unfold gSetI
  have e : ixN ds.length j = some j.toNat := by
    unfold ixN
    repeat (first | rw [if_pos (by omega)] | rw [if_neg (by omega)])
  rw [h1, bnd_ok, h2]
  simp only
  rw [h3, bnd_ok]
  simp only [e]
theorem enumD_map {α : Type} (f : α → Dt) (xs : List α) : enumD (xs.map f) = (xs.zipIdx.map fun p => .tuple [.int (p.2 : Nat), f p.1]) := by
  unfold enumD
  rw [List.zipIdx_map, List.map_map]
  rfl
theorem zipD_map {α β : Type} (f : α → Dt) (g : β → Dt) (xs : List α) (ys : List β) : zipD (xs.map f) (ys.map g) = ((xs.zip ys).map fun p => .tuple [f p.1, g p.2]) := by
  unfold zipD
  rw [List.zip_map, List.map_map]
  rfl
end Sim
end T_SimI

section T_SimJ
set_option Elab.async false
set_option linter.all false
set_option maxRecDepth 100000
/-! SimJ: dicts of one's own (keys ints or strs), xs[::-1], is of bools. -/
namespace Sim
open PySem PySem.Spec L2
open PyProof.Rows hiding St

/-! ### dicts as data -/
def isK : Key → Dt → Bool
  | .inl i, .int j => decide (j = i)
  | .inr x, .str y => decide (y = x)
  | _, _ => false
def keyOf : Dt → Option Key
  | .int i => some (.inl i)
  | .str x => some (.inr x)
  | _ => none
def dGet (es : List (Dt × Dt)) (k : Key) : Option Dt := (es.find? fun e => isK k e.1).map (·.2)
def dPut (es : List (Dt × Dt)) (k : Key) (v : Dt) : List (Dt × Dt) := if (es.any fun e => isK k e.1) = true then es.map (fun e => if isK k e.1 = true then (e.1, v) else e) else es ++ [(keyD k, v)]
def dDrop (es : List (Dt × Dt)) (k : Key) : List (Dt × Dt) := es.filter fun e => !isK k e.1
section
variable {K : PySem.W.Frag} {F F' : Addr → Prop} {H H' : Hp}
theorem isK_keyD (k k' : Key) : isK k (keyD k') = decide (k' = k) := by
  cases k <;> cases k' <;> simp [isK, keyD]
theorem kV_keyOf {v : V} {d : Dt} {k : Key} (x : Rp K F H v d) (e : keyOf d = some k) : v = kV k := by
  cases x <;> cases e <;> rfl
theorem KvA.length : ∀ {kvs : List (Key × V)} {es : List (Dt × Dt)}, KvA K F H kvs es → kvs.length = es.length
  | _, _, .nil => rfl
  | _, _, .cons _ r => by rw [List.length_cons, List.length_cons, r.length]
theorem KvA.get (k : Key) : ∀ {kvs : List (Key × V)} {es : List (Dt × Dt)}, KvA K F H kvs es → (valV kvs k = none ∧ dGet es k = none) ∨ ∃ v d, valV kvs k = some v ∧ dGet es k = some d ∧ Rp K F H v d
  | _, _, .nil => .inl ⟨rfl, rfl⟩
  | _, _, .cons (k := k') (v := v) (d := d) (kvs := kvs) (es := es) h r => by
    by_cases c : k' = k
    · refine .inr ⟨v, d, valV_pos c, ?_, h⟩
      unfold dGet
      rw [List.find?_cons_of_pos (by rw [isK_keyD]; simpa using c)]
      rfl
    · rw [valV_neg c]
      have e : dGet ((keyD k', d) :: es) k = dGet es k := by
        unfold dGet
        rw [List.find?_cons_of_neg (by rw [isK_keyD]; simpa using c)]
      rw [e]
      exact r.get k
theorem KvA.any (k : Key) : ∀ {kvs : List (Key × V)} {es : List (Dt × Dt)}, KvA K F H kvs es → (kvs.any fun kv => decide (kv.1 = k)) = es.any fun e => isK k e.1
  | _, _, .nil => rfl
  | _, _, .cons h r => by rw [List.any_cons, List.any_cons, r.any k, isK_keyD]
theorem KvA.snoc {k : Key} {v : V} {d : Dt} (x : Rp K F H v d) : ∀ {kvs : List (Key × V)} {es : List (Dt × Dt)}, KvA K F H kvs es → KvA K F H (kvs ++ [(k, v)]) (es ++ [(keyD k, d)])
  | _, _, .nil => .cons x .nil
  | _, _, .cons h r => .cons h (r.snoc x)
theorem KvA.over {k : Key} {v : V} {d : Dt} (x : Rp K F H v d) : ∀ {kvs : List (Key × V)} {es : List (Dt × Dt)}, KvA K F H kvs es → KvA K F H (kvs.map fun kv => if kv.1 = k then (kv.1, v) else kv) (es.map fun e => if isK k e.1 = true then (e.1, d) else e)
  | _, _, .nil => .nil
  | _, _, .cons (k := k') h r => by
    rw [List.map_cons, List.map_cons, isK_keyD]
    by_cases c : k' = k
    · rw [if_pos c, if_pos (by simpa using c)]
      exact .cons x (r.over x)
    · rw [if_neg c, if_neg (by simpa using c)]
      exact .cons h (r.over x)
theorem KvA.put {k : Key} {v : V} {d : Dt} (x : Rp K F H v d) {kvs : List (Key × V)} {es : List (Dt × Dt)} (h : KvA K F H kvs es) : KvA K F H (putK kvs k v) (dPut es k d) := by
  unfold putK dPut
  rw [h.any k]
  split
  · exact h.over x
  · exact h.snoc x
theorem KvA.drop (k : Key) : ∀ {kvs : List (Key × V)} {es : List (Dt × Dt)}, KvA K F H kvs es → KvA K F H (dropK kvs k) (dDrop es k)
  | _, _, .nil => .nil
  | _, _, .cons (k := k') h r => by
    unfold dropK dDrop
    rw [List.filter_cons, List.filter_cons, isK_keyD]
    by_cases c : k' = k
    · rw [if_neg (by simpa using c), if_neg (by simpa using c)]
      exact r.drop k
    · rw [if_pos (by simpa using c), if_pos (by simpa using c)]
      exact .cons h (r.drop k)
end

/-! ### closures -/
def gDNew : Gd := fun _ => .ok (.dict [])
def dAt (ρ : List Dt) (i : Nat) : Option (List (Dt × Dt)) := match ρ[i]? with
  | some (.dict es) => some es
  | _ => none
def gDGet (i : Nat) (gk : Gd) : Gd := fun ρ => match dAt ρ i with
  | some es => bnd (gk ρ) fun kd => (match keyOf kd with
    | some k => (match dGet es k with
      | some d => .ok d
      | none => .bad)
    | none => .bad)
  | none => .bad
def gDIn (neg : Bool) (i : Nat) (gk : Gd) : Gd := fun ρ => bnd (gk ρ) fun kd => match dAt ρ i with
  | some es => (match keyOf kd with
    | some k => .ok (.bool (if neg then !(dGet es k).isSome else (dGet es k).isSome))
    | none => .bad)
  | none => .bad
def gDPut (i : Nat) (gv gk : Gd) : Gs := fun ρ => bnd (gv ρ) fun v => match dAt ρ i with
  | some es => bnd (gk ρ) fun kd => (match keyOf kd with
    | some k => if es.length < 100000 then .ok (.nx (ρ.set i (.dict (dPut es k v)))) else .bad
    | none => .bad)
  | none => .bad
theorem dAt_inv {ρ : List Dt} {i : Nat} {es : List (Dt × Dt)} (h : dAt ρ i = some es) : ρ[i]? = some (.dict es) := by
  unfold dAt at h
  split at h
  · cases h; assumption
  · cases h

section
variable {K : PySem.W.Frag} {W : Wt} {Δ Δb Δc : List Kd} {te ti : TE} {g ge gk : Gd} {fr fr' av : Bool} {L : Lk} {i : Nat}
theorem dk_own {f : Fm} {ρ : List Dt} {σ : L2.St} {H : Hp} {es : List (Dt × Dt)} (r : R K f Δ ρ σ H) (hk : Δ[i]? = some (.own .dk fr)) (h : dAt ρ i = some es) :
    ∃ p kvs, σ[i]? = some (some (V.ref p)) ∧ f.H0 p = none ∧ H p = some (.dK kvs) ∧ KvA K (FM f Δ σ true fr) H kvs es := by
  obtain ⟨p, d, g1, g2, g3, kvs, es', ed, g4, g5⟩ := r.ow i .dk fr hk
  rw [dAt_inv h] at g2
  cases g2
  cases ed
  exact ⟨p, kvs, g1, g3, g4, g5⟩
theorem se_dnew : SE K W Δ tDNewK (.new .dk true) gDNew := fun f ρ σ H Q r q => fun p np => q p _ np (same_upd np) ⟨[], [], rfl, upd_same, .nil⟩
theorem se_dget (hk : Δ[i]? = some (.own .dk fr)) (h : SE K W Δ ti (.v av fr') gk) : SE K W Δ (tDGet (tVar i) ti) (.v true fr) (gDGet i gk) := fun f ρ σ H Q r q => by
  unfold gDGet at q
  cases ed : dAt ρ i with
  | none => rw [ed] at q; exact q.elim
  | some es =>
    rw [ed] at q
    obtain ⟨p, kvs, g1, g3, g4, g5⟩ := dk_own r hk ed
    refine ⟨_, g1, h f ρ σ H _ r ?_⟩
    simp only at q
    cases e2 : gk ρ with
    | bad => rw [e2] at q; exact q
    | ex z => rw [e2] at q; exact q
    | ok kd =>
      rw [e2, bnd_ok] at q
      intro kv H1 s1 xk
      cases ek : keyOf kd with
      | none => rw [ek] at q; exact q.elim
      | some k =>
        rw [ek] at q
        simp only at q
        rw [kV_keyOf xk ek]
        rcases g5.get k with ⟨_, e⟩ | ⟨v, d, e1, e, x⟩
        · rw [e] at q; exact q.elim
        · rw [e] at q
          refine ⟨p, v, rfl, ?_, q v H1 s1 (x.same s1)⟩
          rw [← e1]
          exact DGet.k (s1 _ _ g4)
theorem se_din (neg : Bool) (hk : Δ[i]? = some (.own .dk fr)) (h : SE K W Δ ti (.v av fr') gk) : SE K W Δ (if neg then tDNotIn ti (tVar i) else tDIn ti (tVar i)) (.v true true) (gDIn neg i gk) := fun f ρ σ H Q r q => by
  have key : ti σ H (fun y H1 => tVar i σ H1 fun x H2 => ∃ a o, x = .ref a ∧ DGet H2 a y o ∧ Q (.bl (if neg then !o.isSome else o.isSome)) H2) := by
    refine h f ρ σ H _ r ?_
    unfold gDIn at q
    cases e2 : gk ρ with
    | bad => rw [e2] at q; exact q
    | ex z => rw [e2] at q; exact q
    | ok kd =>
      rw [e2, bnd_ok] at q
      intro kv H1 s1 xk
      cases ed : dAt ρ i with
      | none => rw [ed] at q; exact q.elim
      | some es =>
        rw [ed] at q
        simp only at q
        obtain ⟨p, kvs, g1, g3, g4, g5⟩ := dk_own r hk ed
        cases ek : keyOf kd with
        | none => rw [ek] at q; exact q.elim
        | some k =>
          rw [ek] at q
          simp only at q
          rw [kV_keyOf xk ek]
          refine ⟨_, g1, p, valV kvs k, rfl, DGet.k (s1 _ _ g4), ?_⟩
          have eq : (valV kvs k).isSome = (dGet es k).isSome := by
            rcases g5.get k with ⟨e1, e⟩ | ⟨v, d, e1, e, x⟩ <;> rw [e1, e] <;> rfl
          rw [eq]
          exact q _ H1 s1 (.bl _)
  cases neg with
  | true => exact key
  | false => exact key
theorem s_dput (hk : Δ[i]? = some (.own .dk fr)) (h : SE K W Δ te (.v true fr') ge) (h2 : SE K W Δ ti (.v av av') gk) : SS K W L Δ (Δ.set i (.own .dk (fr && fr'))) Δb Δc (sDPut (tVar i) ti te) (gDPut i ge gk) := fun f ρ σ H E r q => h f ρ σ H _ r <| by
  unfold gDPut at q
  cases e : ge ρ with
  | bad => rw [e] at q; exact q
  | ex z => rw [e] at q; exact fun H' s => q σ H' (r.ext.trans s)
  | ok d =>
    rw [e, bnd_ok] at q
    cases ed : dAt ρ i with
    | none => rw [ed] at q; exact q.elim
    | some es =>
      rw [ed] at q
      simp only at q
      obtain ⟨p, kvs, g1, g3, g4, g5⟩ := dk_own r hk ed
      intro v H1 s x
      refine ⟨_, g1, h2 f ρ σ H1 _ (r.mono s) ?_⟩
      cases e2 : gk ρ with
      | bad => rw [e2] at q; exact q
      | ex z => rw [e2] at q; exact fun H' s2 => q σ H' ((r.ext.trans s).trans s2)
      | ok kd =>
        rw [e2, bnd_ok] at q
        intro kv H2 s2 xk
        cases ek : keyOf kd with
        | none => rw [ek] at q; exact q.elim
        | some k =>
          rw [ek] at q
          simp only at q
          by_cases hl : es.length < 100000
          · rw [if_pos hl] at q
            rw [kV_keyOf xk ek]
            have s12 := s.trans s2
            have hp := s12 _ _ g4
            refine ⟨p, _, rfl, DPut.k hp (by rw [g5.length]; exact Nat.lt_of_lt_of_le hl (by decide)), q σ _ ?_⟩
            refine (r.mono s12).updOwn hk g1 (c' := .dk) (show Mutb (.dK _) from trivial) ⟨_, _, rfl, upd_same, ?_⟩
            have nf : ∀ {fr : Bool} (a : Addr), FM f Δ σ true fr a → a ≠ p := fun a fa z => (fa.1 rfl).1 (z ▸ ⟨i, .dk, _, hk, g1⟩)
            refine KvA.put ((Rp.updM hp trivial (fun a fa => nf a fa) (x.same s2)).weak fun a y => y.weak id fun h => (Bool.and_eq_true_iff.mp h).2) ?_
            exact g5.map fun v d z => (Rp.updM hp trivial (fun a fa => nf a fa) (z.same s12)).weak fun a y => y.weak id fun h => (Bool.and_eq_true_iff.mp h).1
          · rw [if_neg hl] at q
            exact q.elim
def gDPop (i : Nat) (gk : Gd) (hh : Dt → List Dt → O (List Dt)) : Gs := fun ρ => match dAt ρ i with
  | some es => bnd (gk ρ) fun kd => (match keyOf kd with
    | some k => (match dGet es k with
      | some d => (match hh d (ρ.set i (.dict (dDrop es k))) with
        | .ok ρ' => .ok (.nx ρ')
        | _ => .bad)
      | none => .bad)
    | none => .bad)
  | none => .bad
theorem set_self {α : Type} {l : List α} {i : Nat} {a : α} (h : l[i]? = some a) : l.set i a = l := by
  apply List.ext_getElem?
  intro j
  by_cases c : i = j
  · subst c
    rw [List.getElem?_set_self (List.getElem?_eq_some_iff.mp h).1, h]
  · rw [List.getElem?_set_ne c]
theorem s_dpop {gg : TG} {sl : List Nat} {n : Nat} {hh : Dt → List Dt → O (List Dt)} {TK : Bool → List Kd → List Kd} (hn : Δ.length = n) (hk : Δ[i]? = some (.own .dk fr)) (h : SE K W Δ ti (.v av fr') gk) (hg : GJ K n gg sl hh TK) :
    SS K W L Δ (TK fr Δ) Δb Δc (tAsg (tDPop1 (tVar i) ti) gg) (gDPop i gk hh) := fun f ρ σ H E r q => by
  unfold gDPop at q
  cases ed : dAt ρ i with
  | none => rw [ed] at q; exact q.elim
  | some es =>
    rw [ed] at q
    simp only at q
    obtain ⟨p, kvs, g1, g3, g4, g5⟩ := dk_own r hk ed
    refine ⟨_, g1, p, rfl, .inl ⟨kvs, .inl g4⟩, h f ρ σ H _ r ?_⟩
    cases e2 : gk ρ with
    | bad => rw [e2] at q; exact q
    | ex z => rw [e2] at q; exact fun H' s2 => q σ H' (r.ext.trans s2)
    | ok kd =>
      rw [e2, bnd_ok] at q
      intro kv H1 s1 xk
      cases ek : keyOf kd with
      | none => rw [ek] at q; exact q.elim
      | some k =>
        rw [ek] at q
        simp only at q
        rcases g5.get k with ⟨_, e⟩ | ⟨v, d, e1, e, x⟩
        · rw [e] at q; exact q.elim
        · rw [e] at q
          simp only at q
          have hp := s1 _ _ g4
          refine ⟨kvs, k, v, hp, kV_keyOf xk ek, e1, ?_⟩
          have nf : ∀ {fr : Bool} (a : Addr), FM f Δ σ true fr a → a ≠ p := fun a fa z => (fa.1 rfl).1 (z ▸ ⟨i, .dk, _, hk, g1⟩)
          have r2 := (r.mono s1).updOwn hk g1 (c' := .dk) (fr' := fr) (o' := .dK (dropK kvs k)) (show Mutb (.dK _) from trivial) ⟨_, _, rfl, upd_same, (g5.map fun v d z => Rp.updM (o' := .dK (dropK kvs k)) hp trivial (fun a fa => nf a fa) (z.same s1)).drop k⟩
          rw [set_self hk] at r2
          refine hg f Δ _ σ _ v d fr _ hn r2 (Rp.updM hp trivial (fun a fa => nf a fa) (x.same s1)) ?_
          cases e3 : hh d (ρ.set i (.dict (dDrop es k))) with
          | bad => rw [e3] at q; exact q.elim
          | ex z => rw [e3] at q; exact q.elim
          | ok ρ' =>
            rw [e3] at q
            exact fun σ' t => q σ' _ t.r
end
/-! ### rules for a text -/
section
variable {X : Cx} {K : PySem.W.Frag} {W : Wt} {Δ Δb Δc : List Kd} {a b e tg : Expr} {te ti : TE} {g ge gk : Gd} {fr fr' av av' : Bool} {L : Lk} {pos p pos' : Pos} {x : Str} {m : Nat}
theorem x_dnew (hK : X.K = K := by rfl) : PD X K W Δ (.Dict [] [] pos) tDNewK (.new .dk true) gDNew := ⟨pe_dnewK, hK, se_dnew⟩
theorem x_dget (i : Nat) (hr : Room m X.A) (h : PD X K W Δ e te (.v av fr') g) (hk : Δ[i]? = some (.own .dk fr) := by rfl) (hv : Vis X.env.scope x := by first | exact Or.inl rfl | exact Or.inr (Or.inl rfl) | exact Or.inr (Or.inr rfl)) (hN : X.N[i]? = some x := by rfl) (hd : (x == ("__debug__" : Str)) = false := by decide) (hcd : (x == ("__classdict__" : Str)) = false := by decide) (hs : NoSl e := by exact fun _ _ => rfl) :
    PD X K W Δ (.Subscript (.Name x p) e pos) (tDGet (tVar i) te) (.v true fr) (gDGet i g) := ⟨pe_dget (by have := hr.un; omega) (pe_var hN hv hd hcd) h.pe hs, h.hK, se_dget hk h.se⟩
theorem x_din (i : Nat) (hr : Room m X.A) (h : PD X K W Δ e te (.v av fr') g) (hk : Δ[i]? = some (.own .dk fr) := by rfl) (hv : Vis X.env.scope x := by first | exact Or.inl rfl | exact Or.inr (Or.inl rfl) | exact Or.inr (Or.inr rfl)) (hN : X.N[i]? = some x := by rfl) (hd : (x == ("__debug__" : Str)) = false := by decide) (hcd : (x == ("__classdict__" : Str)) = false := by decide) (hm : behindInMarks .In (.Name x p) = false := by rfl) :
    PD X K W Δ (.Compare e [.In] [.Name x p] pos) (tDIn te (tVar i)) (.v true true) (gDIn false i g) := ⟨pe_cmp (pc_din (by have := hr.un; omega) h.pe (pe_var hN hv hd hcd)) hm, h.hK, se_din false hk h.se⟩
theorem x_dnin (i : Nat) (hr : Room m X.A) (h : PD X K W Δ e te (.v av fr') g) (hk : Δ[i]? = some (.own .dk fr) := by rfl) (hv : Vis X.env.scope x := by first | exact Or.inl rfl | exact Or.inr (Or.inl rfl) | exact Or.inr (Or.inr rfl)) (hN : X.N[i]? = some x := by rfl) (hd : (x == ("__debug__" : Str)) = false := by decide) (hcd : (x == ("__classdict__" : Str)) = false := by decide) (hm : behindInMarks .NotIn (.Name x p) = false := by rfl) :
    PD X K W Δ (.Compare e [.NotIn] [.Name x p] pos) (tDNotIn te (tVar i)) (.v true true) (gDIn true i g) := ⟨pe_cmp (pc_dnotin (by have := hr.un; omega) h.pe (pe_var hN hv hd hcd)) hm, h.hK, se_din true hk h.se⟩
theorem c_din (i : Nat) (hr : Room m X.A) (h : PD X K W Δ e te (.v av fr') g) (hk : Δ[i]? = some (.own .dk fr) := by rfl) (hv : Vis X.env.scope x := by first | exact Or.inl rfl | exact Or.inr (Or.inl rfl) | exact Or.inr (Or.inr rfl)) (hN : X.N[i]? = some x := by rfl) (hd : (x == ("__debug__" : Str)) = false := by decide) (hcd : (x == ("__classdict__" : Str)) = false := by decide) (hm : behindInMarks .In (.Name x p) = false := by rfl) :
    TD X K W Δ (.Compare e [.In] [.Name x p] pos) (tB (tDIn te (tVar i))) (gTest (gDIn false i g)) := ⟨pt_cmp (pc_din (by have := hr.un; omega) h.pe (pe_var hN hv hd hcd)) hm, h.hK, st_B (se_din false hk h.se)⟩
theorem c_dnin (i : Nat) (hr : Room m X.A) (h : PD X K W Δ e te (.v av fr') g) (hk : Δ[i]? = some (.own .dk fr) := by rfl) (hv : Vis X.env.scope x := by first | exact Or.inl rfl | exact Or.inr (Or.inl rfl) | exact Or.inr (Or.inr rfl)) (hN : X.N[i]? = some x := by rfl) (hd : (x == ("__debug__" : Str)) = false := by decide) (hcd : (x == ("__classdict__" : Str)) = false := by decide) (hm : behindInMarks .NotIn (.Name x p) = false := by rfl) :
    TD X K W Δ (.Compare e [.NotIn] [.Name x p] pos) (tB (tDNotIn te (tVar i))) (gTest (gDIn true i g)) := ⟨pt_cmp (pc_dnotin (by have := hr.un; omega) h.pe (pe_var hN hv hd hcd)) hm, h.hK, st_B (se_din true hk h.se)⟩
theorem z_dput (i : Nat) (hr : Room m X.A) (h : PD X K W Δ e te (.v true fr') ge) (h2 : PD X K W Δ b ti (.v av av') gk) (hk : Δ[i]? = some (.own .dk fr) := by rfl) (hv : Vis X.env.scope x := by first | exact Or.inl rfl | exact Or.inr (Or.inl rfl) | exact Or.inr (Or.inr rfl)) (hN : X.N[i]? = some x := by rfl) (hd : (x == ("__debug__" : Str)) = false := by decide) (hcd : (x == ("__classdict__" : Str)) = false := by decide) (hs : swapsWith e (some (.Subscript (.Name x p) b pos')) pos.line X.env = pure false := by rfl) :
    SD X K W L Δ (Δ.set i (.own .dk (fr && fr'))) Δb Δc (.Assign [.Subscript (.Name x p) b pos'] e pos) (sDPut (tVar i) ti te) (gDPut i ge gk) := ⟨ps_dput (by have := hr.un; omega) (pe_var hN hv hd hcd) h2.pe h.pe hs, h.hK, s_dput hk h.se h2.se⟩
theorem z_dpop (i : Nat) {n : Nat} {gg : TG} {sl : List Nat} {hh : Dt → List Dt → O (List Dt)} {TK : Bool → List Kd → List Kd} {apos cpos : Pos} (h : PD X K W Δ e ti (.v av fr') gk) (hg : GD X K n tg gg sl hh TK) (hk : Δ[i]? = some (.own .dk fr) := by rfl) (hv : Vis X.env.scope x := by first | exact Or.inl rfl | exact Or.inr (Or.inl rfl) | exact Or.inr (Or.inr rfl)) (hN : X.N[i]? = some x := by rfl) (hd : (x == ("__debug__" : Str)) = false := by decide) (hcd : (x == ("__classdict__" : Str)) = false := by decide) (hn : Δ.length = n := by rfl)
    (m1 : attributeBase (.Name x p) "pop" X.env (eval (.Name x p) X.env) = eval (.Name x p) X.env := by rfl)
    (m2 : ((backTo cpos (starEach [e] X.env)).all (fun x => !x.1) && (backToKw cpos (keywordEach [] X.env)).all (fun x => x.1.isSome) && decide (([e] : List Expr).length + ([] : List Keyword).length + (if ([] : List Keyword).isEmpty then 0 else 1) < 30)) = true := by rfl)
    (m3 : (apos.endLine == cpos.line) = true := by rfl) (m4 : backTo cpos (starEach [e] X.env) = [(false, eval e X.env)] := by rfl)
    (hs : swapsWithSole [tg] (.Call (.Attribute (.Name x p) "pop" apos) [e] [] cpos) pos.line X.env = pure false := by rfl) (hw : swappedStores [tg] (.Call (.Attribute (.Name x p) "pop" apos) [e] [] cpos) X.env = pure none := by rfl) (h1 : (assignEach [tg] X.env).map (·.2) = [assign tg X.env] := by rfl) :
    SD X K W L Δ (TK fr Δ) Δb Δc (.Assign [tg] (.Call (.Attribute (.Name x p) "pop" apos) [e] [] cpos) pos) (tAsg (tDPop1 (tVar i) ti) gg) (gDPop i gk hh) :=
  ⟨ps_asg (pe_dpop1 (pe_var hN hv hd hcd) h.pe ⟨m1, m2, m3, m4⟩) hg.pg hs hw h1, h.hK, s_dpop hn hk h.se hg.gj⟩

/-! ### xs[::-1] -/
def hRevL : Dt → O Dt := fun d => match d with
  | .list ds => .ok (.list ds.reverse)
  | _ => .bad
theorem se_revL (ha : SE K W Δ te (.v true fr) g) : SE K W Δ (tRevL K te) (.new .l fr) (gUn hRevL g) := fun f ρ σ H Q R q => by
  refine ha f ρ σ H _ R ?_
  unfold gUn at q
  cases e1 : g ρ with
  | bad => rw [e1] at q; exact q
  | ex z => rw [e1] at q; exact q
  | ok d =>
    rw [e1, bnd_ok] at q
    intro v H1 s1 x1
    cases d with
    | list es =>
      obtain ⟨c, xs, rfl, hs, r⟩ := x1.sql
      exact ⟨c, xs, rfl, hs, fun p np => q p _ (s1.free np) (s1.trans (same_upd np)) ⟨_, _, rfl, upd_same, r.reverse.mono (same_upd np) fun a y z => ⟨y, fun e => z (e ▸ np)⟩⟩⟩
    | _ => exact q.elim
theorem se_revLO (ha : SE K W Δ te (.o fr) g) : SE K W Δ (tRevL K te) (.new .l fr) (gUn hRevL g) := fun f ρ σ H Q R q => by
  refine ha f ρ σ H _ R ?_
  unfold gUn at q
  cases e1 : g ρ with
  | bad => rw [e1] at q; exact q
  | ex z => rw [e1] at q; exact q
  | ok d =>
    rw [e1, bnd_ok] at q
    intro p H1 vs ds ed s1 hp gp x1
    subst ed
    exact ⟨p, vs, rfl, .inl (.inl hp), fun p np => q p _ (s1.free np) (s1.trans (same_upd np)) ⟨_, _, rfl, upd_same, x1.reverse.mono (same_upd np) fun a y z => ⟨y, fun e => z (e ▸ np)⟩⟩⟩
theorem x_revL {k : Nat} {p1 p2 p3 : Pos} (h : PD X K W Δ e te (.v true fr) g) : PD X K W Δ (.Subscript e (.Slice none none (some (.UnaryOp .USub (.Constant (.int 1) k p1) p2)) p3) pos) (tRevL K te) (.new .l fr) (gUn hRevL g) := ⟨by have q := pe_revL (X := X) (k := k) (p1 := p1) (p2 := p2) (p3 := p3) (pos := pos) h.pe; rw [h.hK] at q; exact q, h.hK, se_revL h.se⟩
theorem x_revLO {k : Nat} {p1 p2 p3 : Pos} (h : PD X K W Δ e te (.o fr) g) : PD X K W Δ (.Subscript e (.Slice none none (some (.UnaryOp .USub (.Constant (.int 1) k p1) p2)) p3) pos) (tRevL K te) (.new .l fr) (gUn hRevL g) := ⟨by have q := pe_revL (X := X) (k := k) (p1 := p1) (p2 := p2) (p3 := p3) (pos := pos) h.pe; rw [h.hK] at q; exact q, h.hK, se_revLO h.se⟩

/-! ### is True, is not True -/
def hIsB : Dt → Dt → O Dt := fun d e => match d, e with
  | .bool a, .bool b => .ok (.bool (decide (a = b)))
  | _, _ => .bad
def hNotB : Dt → Dt → O Dt := fun d e => match d, e with
  | .bool a, .bool b => .ok (.bool (!decide (a = b)))
  | _, _ => .bad
theorem scl_isB : Scl2 hIsB := fun d e => by cases d <;> cases e <;> first | exact .inr rfl | exact .inl ⟨_, rfl, rfl⟩
theorem scl_notB : Scl2 hNotB := fun d e => by cases d <;> cases e <;> first | exact .inr rfl | exact .inl ⟨_, rfl, rfl⟩
theorem osc_isB : OSc K rIsB hIsB := fun H x y d e Q hx hy h => by
  cases hx <;> cases hy <;> first | exact h.elim | exact ⟨_, _, rfl, rfl, h.2 _ (.bl _)⟩
theorem osc_notB : OSc K rNotB hNotB := fun H x y d e Q hx hy h => by
  cases hx <;> cases hy <;> first | exact h.elim | exact ⟨_, _, rfl, rfl, h.2 _ (.bl _)⟩
theorem or_isB : OR X K .Is rIsB hIsB := ⟨op_isBl, scl_isB, osc_isB⟩
theorem or_notB : OR X K .IsNot rNotB hNotB := ⟨op_notBl, scl_notB, osc_notB⟩
end
/-! ### len(set(ints)) -/
def ddp (ns : List Int) : List Int := firstMet (fun i => ns.getD i 0) ns.length
theorem firstMet_le (val : Nat → Int) : ∀ i, (firstMet val i).length ≤ i
  | 0 => Nat.le_refl _
  | i + 1 => by
    rw [firstMet_succ]
    have := firstMet_le val i
    unfold step_dedup
    split
    · omega
    · rw [List.length_append, List.length_singleton]; omega
def tLenSetG (K : PySem.W.Frag) (ta : TE) : TE := fun σ H Q => ta σ H fun x H1 => ∃ (l : Addr) (ns : List Int), x = V.ref l ∧ SqL K H1 l (ns.map V.int) ∧ ns.length < 64 ∧ Q (.int (ddp ns).length) H1
def hLenSet : Dt → O Dt := fun d => match d with
  | .list xs => match allI xs with
    | some ns => if ns.length < 64 then .ok (.int (ddp ns).length) else .bad
    | none => .bad
  | _ => .bad
section
variable {X : Cx} {K : PySem.W.Frag} {W : Wt} {Δ : List Kd} {a : Expr} {ta te : TE} {g : Gd} {av fr : Bool} {p p2 q pos : Pos}
theorem pe_lenSetG (hc : X.calm = true) (hg : Gl X "len") (hm : X.mg "len" = none) (hg2 : Gl X "set") (hm2 : X.mg "set" = none) (ha : PE X a ta)
    (na : starEach [a] X.env = (false, eval a X.env) :: starEach [] X.env := by rfl) : PE X (.Call (.Name "len" p) [.Call (.Name "set" p2) [a] [] q] [] pos) (tLenSetG X.K ta) := by
  refine ⟨fun pins s σ H Q I h => ?_⟩
  refine Call_ (ld_blt I hg hm PySem.boot_len ?_)
  refine PyProof.Rows.callWith_builtin1 (PyProof.Rows.args_cons ?_ rfl) rfl rfl
  refine Call_ (ld_blt I hg2 hm2 PyProof.Rows.boot_set ?_)
  refine PyProof.Rows.callWith_type1 (PyProof.Rows.args_cons (thn (ha.run pins s σ H _ I h) fun v s1 ⟨x, H1, I1, r1, q1⟩ => PyProof.Rows.args_nil ?_) na) na rfl
  obtain ⟨l, ns, rfl, hq, h1, q1⟩ := q1
  cases r1
  obtain ⟨its, r, pl, hz⟩ := I1.list hq
  have hl : its.toArray.size = ns.length := by rw [List.size_toArray, ← r.length, List.length_map]
  refine call_set_list (I1.ok.hd hc) pl.isList (ns := ns) (by simpa using r.ints) (by unfold scanBound; omega) fun h' tk hS hk => ?_
  rw [hl] at hS
  have hd := firstMet_le (fun i => ns.getD i 0) ns.length
  refine PyProof.Rows.args_nil ?_
  obtain ⟨o, es, ep, t, ho, hex, hd', _, _, _, hf, hn⟩ := hS
  have I2 : Inv X pins σ H1 { s1 with heap := h', toks := tk } := I1.kept fun b o e => hk b o (Heap.lt_size e) e
  refine call_len_set ho hex hd' hf (by rw [hn] <;> omega) ⟨.int (ddp ns).length, H1, I2.tok _, ⟨_, by rw [hn] <;> rfl⟩, q1⟩
theorem se_lenSet (ha : SE K W Δ te (.v av fr) g) : SE K W Δ (tLenSetG K te) (.v true true) (gUn hLenSet g) := fun f ρ σ H Q R q => by
  refine ha f ρ σ H _ R ?_
  unfold gUn at q
  cases e1 : g ρ with
  | bad => rw [e1] at q; exact q
  | ex z => rw [e1] at q; exact q
  | ok d =>
    rw [e1, bnd_ok] at q
    intro v H1 s1 x1
    cases d with
    | list es =>
      unfold hLenSet at q
      simp only at q
      cases ea : allI es with
      | none => rw [ea] at q; exact q.elim
      | some ns =>
        rw [ea] at q
        simp only at q
        by_cases hl : ns.length < 64
        · rw [if_pos hl] at q
          obtain ⟨c, xs, rfl, hs, r⟩ := x1.sql
          rw [rp_ints r ea] at hs
          exact ⟨c, ns, rfl, hs, hl, q _ H1 s1 (.int _)⟩
        · rw [if_neg hl] at q
          exact q.elim
    | _ => exact q.elim
theorem x_lenSet (hm : X.mg "len" = none) (hm2 : X.mg "set" = none) (h : PD X K W Δ a te (.v av fr) g) (hc : X.calm = true := by rfl) (hg : Gl X "len" := by rfl) (hg2 : Gl X "set" := by rfl) (na : starEach [a] X.env = (false, eval a X.env) :: starEach [] X.env := by rfl) :
    PD X K W Δ (.Call (.Name "len" p) [.Call (.Name "set" p2) [a] [] q] [] pos) (tLenSetG K te) (.v true true) (gUn hLenSet g) := ⟨by have w := pe_lenSetG (X := X) (p := p) (p2 := p2) (q := q) (pos := pos) hc hg hm hg2 hm2 h.pe na; rw [h.hK] at w; exact w, h.hK, se_lenSet h.se⟩
end
theorem ddp_nodup {ns : List Int} : (ddp ns).length = ns.length ↔ ns.Nodup := by
  unfold ddp
  constructor
  · intro h
    have key : ∀ i, i ≤ ns.length → (firstMet (fun i => ns.getD i 0) i).length = i → firstMet (fun i => ns.getD i 0) i = ns.take i ∧ (ns.take i).Nodup := by
      intro i
      induction i with
      | zero => intro _ _; exact ⟨rfl, List.nodup_nil⟩
      | succ i ih =>
        intro hi hl
        have hlt : i < ns.length := hi
        rw [firstMet_succ] at hl ⊢
        have hle := firstMet_le (fun i => ns.getD i 0) i
        unfold step_dedup at hl ⊢
        by_cases c : ((firstMet (fun i => ns.getD i 0) i).any (· == ns.getD i 0)) = true
        · rw [if_pos c] at hl; omega
        · rw [if_neg c] at hl ⊢
          rw [List.length_append, List.length_singleton] at hl
          obtain ⟨e1, e2⟩ := ih (by omega) (by omega)
          rw [e1] at c ⊢
          have e : ns.getD i 0 = ns[i] := by rw [List.getD_eq_getElem?_getD, List.getElem?_eq_getElem hlt] <;> rfl
          rw [e] at c ⊢
          have et : ns.take (i + 1) = ns.take i ++ [ns[i]] := by rw [List.take_add_one, List.getElem?_eq_getElem hlt] <;> rfl
          rw [et]
          refine ⟨rfl, ?_⟩
          rw [List.nodup_append]
          refine ⟨e2, by simp, fun x hx y hy => ?_⟩
          rw [List.mem_singleton.mp hy]
          intro z
          subst z
          exact c (List.any_eq_true.mpr ⟨_, hx, by simp⟩)
    obtain ⟨_, e⟩ := key ns.length (Nat.le_refl _) h
    rwa [List.take_length] at e
  · intro h
    rw [L2.firstMet_nodup ns h ns.length (Nat.le_refl _), List.take_length]
end Sim
end T_SimJ

section T_SimK
set_option Elab.async false
set_option linter.all false
set_option maxRecDepth 100000
/-! SimK: zip(reversed(list), reversed(list)). -/
namespace PySem
open Sem (wp)

/-- k items are left to a list's reversed walk -/
def LeftOf (h : Heap) (it l : Addr) (k : Nat) : Prop := h.IsRevIter it l ((k : Int) - 1)
theorem LeftOf.at {h h' : Heap} {it l : Addr} {k : Nat} (x : LeftOf h it l k) (e : ∀ o, h.get? it = some o → h'.get? it = some o) : LeftOf h' it l k := Heap.IsRevIter.at x e
theorem LeftOf.lt {h : Heap} {it l : Addr} {k : Nat} (x : LeftOf h it l k) : it < h.objs.size := by obtain ⟨_, e, _⟩ := x; exact Heap.lt_size e
section
variable {prog : Program} {w : World} {A : Around} {E : Value → Shared → Prop} {s : Shared}

theorem left_step {it l : Addr} {k : Nat} {items : Array Value} {x : Value} {Q : Value → Shared → Prop} (hit : LeftOf s.heap it l (k + 1)) (hl : s.heap.IsList l items) (hx : items[k]? = some x)
    (hQ : ∀ h', LeftOf h' it l k → Heap.SameBut it s.heap h' → Q x { s with heap := h' }) : wpAny (model prog w) A (Builtin.SmallTypes.nextOf (.ref it)) Q E s := by
  have e1 : ((k + 1 : Nat) : Int) - 1 = (k : Int) := by omega
  unfold LeftOf at hit
  rw [e1] at hit
  obtain ⟨o, ho, hc, hd⟩ := id hit
  obtain ⟨ol, hol, _, nl, hdl⟩ := hl
  unfold Builtin.SmallTypes.nextOf
  refine wpAny_bind (wpAny_callSpecial?_slot (name := Str.ofString "__next__") hit.typeIs F.slot_lri_next (wpAny_call_entry F.slot_lri_next hit.typeIs F.entry_lri_next ?_ (F.args_lri_next_1 _)))
  unfold Builtin.«list_reverseiterator.__next__»
  refine wpAny_bind (wpAny_of_eq (a := (Value.ref it, [])) rfl ?_)
  try dsimp only
  refine wpAny_bind (wpAny_field ho hd (x := rawInt (k : Int)) rfl ?_)
  show wpAny _ _ (if (k : Int) < 0 then _ else _) _ _ s
  rw [if_neg (by omega)]
  show wpAny _ _ (field (.ref it) 0 >>= _) _ _ s
  refine wpAny_bind (wpAny_field ho hd (x := .ref l) rfl ?_)
  show wpAny _ _ (seqItems? (.ref l) >>= _) _ _ s
  refine wpAny_bind (wpAny_seqItems hol hdl ?_)
  simp only [Int.toNat_natCast, hx]
  refine wpAny_bind (wpAny_setField ho hd (by simp) ?_)
  first
  | refine wpAny_pure ⟨x, rfl, wpAny_pure (hQ _ ?_ (Heap.SameBut.update ..))⟩
  | refine wpAny_bind (wpAny_pure (wpAny_pure ⟨x, rfl, wpAny_pure (hQ _ ?_ (Heap.SameBut.update ..))⟩))
  exact ⟨_, Heap.get?_update_self _ ho (Obj.isFreed_of_fields (Obj.data_mapFields hd _)), (Obj.cls_mapFields ..).trans hc, by
    rw [Obj.data_mapFields hd]; simp⟩
theorem left_none {it l : Addr} {Q : Value → Shared → Prop} (hh : A.handled = none) (hit : LeftOf s.heap it l 0)
    (hE : ∀ h' e, Heap.ExtBut it s.heap h' → (∃ o, h'.get? e = some o ∧ o.cls = .type "StopIteration") → E (.ref e) { s with heap := h' }) :
    wpAny (model prog w) A (Builtin.SmallTypes.nextOf (.ref it)) Q E s := by
  have hit : s.heap.IsRevIter it l (-1) := hit
  obtain ⟨o, ho, hc, hd⟩ := id hit
  unfold Builtin.SmallTypes.nextOf
  refine wpAny_bind (wpAny_callSpecial?_slot (name := Str.ofString "__next__") hit.typeIs F.slot_lri_next (wpAny_call_entry F.slot_lri_next hit.typeIs F.entry_lri_next ?_ (F.args_lri_next_1 _)))
  unfold Builtin.«list_reverseiterator.__next__»
  refine wpAny_bind (wpAny_of_eq (a := (Value.ref it, [])) rfl ?_)
  try dsimp only
  refine wpAny_bind (wpAny_field ho hd (x := rawInt (-1)) rfl ?_)
  show wpAny _ _ (if (-1 : Int) < 0 then _ else _) _ _ s
  rw [if_pos (by decide)]
  refine wpAny_bind (wpAny_rule ?_)
  first
  | show wpAny _ _ (newExc (.type "StopIteration") [] >>= _) _ _ _
  | (refine wpAny_bind ?_; show wpAny _ _ (newExc (.type "StopIteration") [] >>= _) _ _ _)
  refine wpAny_bind ?_
  simp only [newExc, newTuple]
  refine wpAny_bind (wpAny_newObj_type ?_ (by size_fits))
  refine wpAny_bind (m := firstArgMember _ _) (wpAny_of_eq (a := Value.none) (by first | rfl | (simp only [firstArgMember]; rfl)) ?_)
  refine wpAny_newObj_type ?_ (by size_fits)
  simp only [raiseNew]
  refine wpAny_bind (wpAny_handled ?_)
  first | rw [show A.in1.handled = none from hh] | rw [hh]
  refine wpAny_bind (wpAny_pure (wpAny_throw ?_))
  exact hE _ _ (((Heap.ExtBut.refl _ _).push _).push _) ⟨_, Heap.get?_push_size _ rfl, rfl⟩

/-- the zip z (its pair of walks in TI, what it hands out in TO) over two lists, from the back -/
structure ZR (h : Heap) (z TI TO i1 i2 l1 l2 : Addr) (k1 k2 : Nat) : Prop where
  z : IsZip h z TI TO .none
  ti : IsPair h TI (.ref i1) (.ref i2)
  to : ∃ a b, IsPair h TO a b
  w1 : LeftOf h i1 l1 k1
  w2 : LeftOf h i2 l2 k2

theorem zr_item {z TI TO i1 i2 l1 l2 : Addr} {k1 k2 : Nat} {xs ys : Array Value} {x y : Value} {Q : Option Value → Shared → Prop} (D : ZipApart z TI TO i1 i2 l1 l2)
    (st : ZR s.heap z TI TO i1 i2 l1 l2 (k1 + 1) (k2 + 1)) (hl1 : s.heap.IsList l1 xs) (hl2 : s.heap.IsList l2 ys) (hx : xs[k1]? = some x) (hy : ys[k2]? = some y)
    (hQ : ∀ h', IsZip h' z TI TO (rawInt s.heap.objs.size) → IsPair h' TO x y → LeftOf h' i1 l1 k1 → LeftOf h' i2 l2 k2 → IsPair h' s.heap.objs.size x y → h'.objs.size = s.heap.objs.size + 1 →
      (∀ c o, c ≠ z → c ≠ TO → c ≠ i1 → c ≠ i2 → s.heap.get? c = some o → h'.get? c = some o) → Q (some (.ref s.heap.objs.size)) { s with heap := h' }) :
    wpAny (model prog w) A (pyNext (.ref z)) Q E s := by
  obtain ⟨hz, hTI, ⟨a, b, hTO⟩, h1, h2⟩ := st
  have hT : s.TypeIs (.ref z) "zip" := ⟨_, hz, rfl⟩
  unfold pyNext
  refine wpAny_bind (wpAny_attempt (wpAny_callSpecial?_slot (name := Str.ofString "__next__") hT F.slot_zip_next (wpAny_call_entry F.slot_zip_next hT F.entry_zip_next ?_ (F.args_zip_next_1 _))))
  show wpAny _ _ (field (.ref z) 2 >>= _) _ _ _
  refine wpAny_bind (wpAny_field hz rfl (x := .bool false) rfl ?_)
  show wpAny _ _ (field (.ref z) 3 >>= _) _ _ _
  refine wpAny_bind (wpAny_field hz rfl (x := .ref TI) rfl ?_)
  refine wpAny_bind (wpAny_seqItems hTI rfl ?_)
  show wpAny _ _ (Builtin.SmallTypes.ownedTupleIsFree (.ref z) >>= _) _ _ _
  refine wpAny_bind ?_
  unfold Builtin.SmallTypes.ownedTupleIsFree
  refine wpAny_bind (wpAny_field hz rfl (x := .none) rfl (wpAny_pure ?_))
  simp only [if_true]
  refine wpAny_bind (wpAny_rule ?_)
  refine wpAny_bind (wpAny_field hz rfl (x := .ref TO) rfl ?_)
  refine wpAny_bind (wpAny_setField_rec hz (by simp) fun ha hza sa => ?_)
  replace hza : IsZip ha z TI TO .ellipsis := hza
  refine wpAny_bind ?_
  simp only [List.zipIdx_cons, List.zipIdx_nil, List.forIn_cons, List.forIn_nil]
  -- the first list's item
  refine wpAny_bind (wpAny_bind (wpAny_onRaise ?_))
  show wpAny _ _ (Builtin.SmallTypes.nextOf (.ref i1) >>= _) _ _ _
  refine wpAny_bind (left_step (h1.at fun o e => sa.extBut _ _ D.i1z e) (hl1.extBut sa.extBut D.l1z) hx fun hb h1b sb => wpAny_pure ?_)
  have hTOb : IsPair hb TO a b := sb.extBut _ _ D.TOi1 (sa.extBut _ _ D.TOz hTO)
  refine wpAny_bind (wpAny_seqItems hTOb rfl ?_)
  refine wpAny_bind (wpAny_updateSeq_pair hTOb fun hc hTOc sc => ?_)
  replace hTOc : IsPair hc TO x b := hTOc
  refine wpAny_bind (wpAny_letGo (wpAny_pure ?_))
  -- the second one's
  refine wpAny_bind (wpAny_bind (wpAny_onRaise ?_))
  show wpAny _ _ (Builtin.SmallTypes.nextOf (.ref i2) >>= _) _ _ _
  refine wpAny_bind (left_step (h2.at fun o e => sc.extBut _ _ D.TOi2.symm (sb.extBut _ _ D.i12.symm (sa.extBut _ _ D.i2z e))) (((hl2.extBut sa.extBut D.l2z).extBut sb.extBut D.l2i1).extBut sc.extBut D.l2TO) hy fun hd h2d sd => wpAny_pure ?_)
  have hTOd : IsPair hd TO x b := sd.extBut _ _ D.TOi2 hTOc
  refine wpAny_bind (wpAny_seqItems hTOd rfl ?_)
  refine wpAny_bind (wpAny_updateSeq_pair hTOd fun he hTOe se => ?_)
  replace hTOe : IsPair he TO x y := hTOe
  refine wpAny_bind (wpAny_letGo (wpAny_pure (wpAny_pure ?_)))
  refine wpAny_bind (wpAny_seqItems hTOe rfl ?_)
  refine wpAny_bind (wpAny_newTuple ?_)
  have hsz : he.objs.size = s.heap.objs.size := by rw [se.1, sd.1, sc.1, sb.1, sa.1]
  have hze : IsZip he z TI TO .ellipsis := se.extBut _ _ D.TOz.symm (sd.extBut _ _ D.i2z.symm (sc.extBut _ _ D.TOz.symm (sb.extBut _ _ D.i1z.symm hza)))
  have hke : ∀ c o, c ≠ z → c ≠ TO → c ≠ i1 → c ≠ i2 → s.heap.get? c = some o → he.get? c = some o := fun c o c1 c2 c3 c4 e =>
    se.extBut _ _ c2 (sd.extBut _ _ c4 (sc.extBut _ _ c2 (sb.extBut _ _ c3 (sa.extBut _ _ c1 e))))
  have h1e : LeftOf he i1 l1 k1 := h1b.at fun o e => se.extBut _ _ D.TOi1.symm (sd.extBut _ _ D.i12 (sc.extBut _ _ D.TOi1.symm e))
  have h2e : LeftOf he i2 l2 k2 := h2d.at fun o e => se.extBut _ _ D.TOi2.symm e
  have hzlt : z < he.objs.size := Heap.lt_size hze
  show wpAny _ _ (Builtin.SmallTypes.ownedTupleHandOut (.ref z) (.ref he.objs.size) >>= _) _ _ _
  refine wpAny_bind ?_
  unfold Builtin.SmallTypes.ownedTupleHandOut
  have hzf : IsZip (he.push { cls := .type "tuple", data := .seq #[x, y] }) z TI TO .ellipsis := Heap.get?_push_of_some _ hze
  refine wpAny_bind (wpAny_setField_rec hzf (by simp) fun hg hzg sg => ?_)
  replace hzg : IsZip hg z TI TO (rawInt he.objs.size) := hzg
  refine wpAny_setField_rec hzg (by simp) fun hh hzh sh => ?_
  replace hzh : IsZip hh z TI TO (rawInt he.objs.size) := hzh
  have up : ∀ c o, c ≠ z → he.get? c = some o → hh.get? c = some o := fun c o c1 e => sh.extBut _ _ c1 (sg.extBut _ _ c1 (Heap.get?_push_of_some _ e))
  have hTh : IsPair hh he.objs.size x y := sh.extBut _ _ (Nat.ne_of_gt hzlt) (sg.extBut _ _ (Nat.ne_of_gt hzlt) (Heap.get?_push_size _ rfl))
  have hszh : hh.objs.size = he.objs.size + 1 := by rw [sh.1, sg.1, Heap.size_push]
  rw [hsz] at hzh hTh hszh
  refine wpAny_pure ⟨_, rfl, ?_⟩
  show wpAny _ _ (pure (some (Value.ref he.objs.size))) _ _ _
  rw [hsz]
  exact wpAny_pure (hQ hh hzh (up _ _ D.TOz hTOe) (h1e.at fun o e => up _ o D.i1z e) (h2e.at fun o e => up _ o D.i2z e) hTh hszh fun c o c1 c2 c3 c4 e => up c o c1 (hke c o c1 c2 c3 c4 e))
theorem zr_end {z TI TO i1 i2 l1 l2 : Addr} {k1 k2 : Nat} {xs ys : Array Value} {Q : Option Value → Shared → Prop} (hh : A.handled = none) (D : ZipApart z TI TO i1 i2 l1 l2)
    (st : ZR s.heap z TI TO i1 i2 l1 l2 k1 k2) (hl1 : s.heap.IsList l1 xs) (hl2 : s.heap.IsList l2 ys) (hk1 : k1 ≤ xs.size) (hend : k1 = 0 ∨ k2 = 0)
    (hQ : ∀ h', (∀ c o, c ≠ z → c ≠ TO → c ≠ i1 → c ≠ i2 → s.heap.get? c = some o → h'.get? c = some o) → Q none { s with heap := h' }) : wpAny (model prog w) A (pyNext (.ref z)) Q E s := by
  obtain ⟨hz, hTI, ⟨a, b, hTO⟩, h1, h2⟩ := st
  have hT : s.TypeIs (.ref z) "zip" := ⟨_, hz, rfl⟩
  unfold pyNext
  have fin : ∀ h' e, (∀ c o, c ≠ z → c ≠ TO → c ≠ i1 → c ≠ i2 → s.heap.get? c = some o → h'.get? c = some o) → (∃ o, h'.get? e = some o ∧ o.cls = .type "StopIteration") →
      wpAny (model prog w) A ((do if ← isInstance (.ref e) (.type "StopIteration") then pure none else throw (.ref e)) : Sem (Option Value)) Q E { s with heap := h' } := fun h' e hk he => by
    obtain ⟨o, ho, hc⟩ := he
    refine wpAny_bind (wpAny_isInstance (T := "StopIteration") (b := true) ⟨o, ho, hc⟩ isSubtype_stop ?_)
    exact wpAny_pure (hQ _ hk)
  refine wpAny_bind (wpAny_attempt (wpAny_callSpecial?_slot (name := Str.ofString "__next__") hT F.slot_zip_next (wpAny_call_entry F.slot_zip_next hT F.entry_zip_next ?_ (F.args_zip_next_1 _))))
  show wpAny _ _ (field (.ref z) 2 >>= _) _ _ _
  refine wpAny_bind (wpAny_field hz rfl (x := .bool false) rfl ?_)
  show wpAny _ _ (field (.ref z) 3 >>= _) _ _ _
  refine wpAny_bind (wpAny_field hz rfl (x := .ref TI) rfl ?_)
  refine wpAny_bind (wpAny_seqItems hTI rfl ?_)
  show wpAny _ _ (Builtin.SmallTypes.ownedTupleIsFree (.ref z) >>= _) _ _ _
  refine wpAny_bind ?_
  unfold Builtin.SmallTypes.ownedTupleIsFree
  refine wpAny_bind (wpAny_field hz rfl (x := .none) rfl (wpAny_pure ?_))
  simp only [if_true]
  refine wpAny_bind (wpAny_rule ?_)
  refine wpAny_bind (wpAny_field hz rfl (x := .ref TO) rfl ?_)
  refine wpAny_bind (wpAny_setField_rec hz (by simp) fun ha hza sa => ?_)
  replace hza : IsZip ha z TI TO .ellipsis := hza
  refine wpAny_bind ?_
  simp only [List.zipIdx_cons, List.zipIdx_nil, List.forIn_cons, List.forIn_nil]
  refine wpAny_bind (wpAny_bind (wpAny_onRaise ?_))
  show wpAny _ _ (Builtin.SmallTypes.nextOf (.ref i1) >>= _) _ _ _
  cases k1 with
  | zero =>
    refine wpAny_bind (left_none hh (h1.at fun o e => sa.extBut _ _ D.i1z e) fun hb e sb he => ?_)
    obtain ⟨oe, hoe, hce⟩ := he
    have hzb : IsZip hb z TI TO .ellipsis := sb _ _ D.i1z.symm hza
    have hez : e ≠ z := fun x => by subst x; rw [hzb] at hoe; cases hoe; simp at hce
    refine wpAny_setField_rec hzb (by simp) fun hc _ sc => fin hc e (fun c o c1 _ c3 _ x => sc.extBut _ _ c1 (sb _ _ c3 (sa.extBut _ _ c1 x))) ⟨oe, sc.extBut _ _ hez hoe, hce⟩
  | succ k1 =>
    have hk2 : k2 = 0 := by
      rcases hend with h | h
      · cases h
      · exact h
    subst hk2
    have hx : xs[k1]? = some (xs[k1]'(by omega)) := Array.getElem?_eq_getElem (by omega)
    refine wpAny_bind (left_step (h1.at fun o e => sa.extBut _ _ D.i1z e) (hl1.extBut sa.extBut D.l1z) hx fun hb h1b sb => wpAny_pure ?_)
    have hTOb : IsPair hb TO a b := sb.extBut _ _ D.TOi1 (sa.extBut _ _ D.TOz hTO)
    refine wpAny_bind (wpAny_seqItems hTOb rfl ?_)
    refine wpAny_bind (wpAny_updateSeq_pair hTOb fun hc hTOc sc => ?_)
    refine wpAny_bind (wpAny_letGo (wpAny_pure ?_))
    refine wpAny_bind (wpAny_bind (wpAny_onRaise ?_))
    show wpAny _ _ (Builtin.SmallTypes.nextOf (.ref i2) >>= _) _ _ _
    refine wpAny_bind (left_none hh (h2.at fun o e => sc.extBut _ _ D.TOi2.symm (sb.extBut _ _ D.i12.symm (sa.extBut _ _ D.i2z e))) fun hd e sd he => ?_)
    obtain ⟨oe, hoe, hce⟩ := he
    have hzd : IsZip hd z TI TO .ellipsis := sd _ _ D.i2z.symm (sc.extBut _ _ D.TOz.symm (sb.extBut _ _ D.i1z.symm hza))
    have hez : e ≠ z := fun x => by subst x; rw [hzd] at hoe; cases hoe; simp at hce
    refine wpAny_setField_rec hzd (by simp) fun he _ se => fin he e (fun c o c1 c2 c3 c4 x => se.extBut _ _ c1 (sd _ _ c4 (sc.extBut _ _ c2 (sb.extBut _ _ c3 (sa.extBut _ _ c1 x))))) ⟨oe, se.extBut _ _ hez hoe, hce⟩
end
/-! the zip made -/
abbrev zr3 (h : Heap) (i1 i2 : Addr) : Heap := h.push { cls := .type "tuple", data := .seq #[.ref i1, .ref i2] }
abbrev zr4 (h : Heap) (i1 i2 : Addr) : Heap := (zr3 h i1 i2).push { cls := .type "tuple", data := .seq #[.none, .none] }
abbrev zr5 (h : Heap) (i1 i2 : Addr) : Heap := (zr4 h i1 i2).push { cls := .type "zip", data := .fields #[.none, .bool false, .bool false, .ref h.objs.size, .ref (zr3 h i1 i2).objs.size] }
theorem meets_zr (i1 i2 l1 l2 : Addr) (p q : Int) :
    Meets (Builtin.«zip.__new__» ⟨[.type "zip", .ref i1, .ref i2], []⟩) (fun _ R s => s.heap.IsRevIter i1 l1 p ∧ s.heap.IsRevIter i2 l2 q ∧
      R (.ok (.ret (.ref (zr4 s.heap i1 i2).objs.size))) { s with heap := zr5 s.heap i1 i2 }) :=
  .of_wp fun prog w A R s h => by
    obtain ⟨hp, g, d, tk, os⟩ := s; obtain ⟨h1, h2, h⟩ := h
    have hsub := sub_zip
    have hL1 : Heap.IsRevIter (Shared.heap ⟨hp, g, d, tk, os⟩) i1 l1 p := h1
    have hL2 : Heap.IsRevIter (Shared.heap ⟨hp, g, d, tk, os⟩) i2 l2 q := h2
    wp_walk using wpAny_pyIter_revIter hL1, wpAny_pyIter_revIter hL2
    exact ⟨_, rfl, h⟩
section
variable {prog : Program} {w : World} {A : Around} {E : Value → Shared → Prop} {s : Shared}
theorem call_zr {i1 i2 l1 l2 : Addr} {k1 k2 : Nat} {Q : Value → Shared → Prop} (h1 : LeftOf s.heap i1 l1 k1) (h2 : LeftOf s.heap i2 l2 k2)
    (h : ∀ h', ZR h' (s.heap.objs.size + 2) s.heap.objs.size (s.heap.objs.size + 1) i1 i2 l1 l2 k1 k2 → h'.objs.size = s.heap.objs.size + 3 →
      (∀ c o, s.heap.get? c = some o → h'.get? c = some o) → Q (.ref (s.heap.objs.size + 2)) { s with heap := h' }) :
    wpAny (model prog w) A (call (.type "zip") [.ref i1, .ref i2]) Q E s := by
  refine callType_new F.called_zip (by decide) (F.typeCall_zip_2 _ _) (F.newCall_zip_2 _ _) (fun obj => F.args_object_init_3 obj _ _) F.entry_zip_new (meets_zr i1 i2 l1 l2 _ _) ⟨h1, h2, ?_⟩
  have z3 : (zr3 s.heap i1 i2).objs.size = s.heap.objs.size + 1 := Heap.size_push ..
  have z4 : (zr4 s.heap i1 i2).objs.size = s.heap.objs.size + 2 := by rw [Heap.size_push, z3]
  have z5 : (zr5 s.heap i1 i2).objs.size = s.heap.objs.size + 3 := by rw [Heap.size_push, z4]
  have g5 : (zr5 s.heap i1 i2).get? (zr4 s.heap i1 i2).objs.size = some _ := Heap.get?_push_size _ rfl
  have g4 : (zr5 s.heap i1 i2).get? (zr3 s.heap i1 i2).objs.size = some _ := Heap.get?_push_of_some _ (Heap.get?_push_size _ rfl)
  have g3 : (zr5 s.heap i1 i2).get? s.heap.objs.size = some _ := Heap.get?_push_of_some _ (Heap.get?_push_of_some _ (Heap.get?_push_size _ rfl))
  have kp : ∀ c o, s.heap.get? c = some o → (zr5 s.heap i1 i2).get? c = some o := fun c o x => Heap.get?_push_of_some _ (Heap.get?_push_of_some _ (Heap.get?_push_of_some _ x))
  show _ ∧ _
  rw [z4, z3] at g5
  rw [z3] at g4
  rw [z4]
  exact ⟨⟨_, g5, rfl⟩, h _ ⟨g5, g3, ⟨_, _, g4⟩, h1.at fun o e => kp _ o e, h2.at fun o e => kp _ o e⟩ z5 kp⟩
end
end PySem
end T_SimK

section T_SimL
set_option Elab.async false
set_option linter.all false
set_option maxRecDepth 100000
/-! SimL: the hand layer's walk over zip(reversed(list), reversed(list)). -/
namespace Sim
open PySem PySem.Spec L2
open PyProof.Rows hiding St

/-- the lists at a and b from the back, the items in new pairs -/
def Itr (K : PySem.W.Frag) (a b : Addr) (n m : Nat) : It :=
  ⟨fun i H => i < n ∧ i < m ∧ ∃ (xs ys : List V) (x y : V), SqL K H a xs ∧ SqL K H b ys ∧ xs[n - 1 - i]? = some x ∧ ys[m - 1 - i]? = some y,
    fun i H v H' => ∃ T x y, v = .ref T ∧ H T = none ∧ H' = upd H T (.tup [x, y]) ∧ (∀ xs, SqL K H a xs → xs[n - 1 - i]? = some x) ∧ ∀ ys, SqL K H b ys → ys[m - 1 - i]? = some y,
    fun i H => ∃ xs ys : List V, SqL K H a xs ∧ SqL K H b ys ∧ n ≤ xs.length ∧ (n ≤ i ∨ m ≤ i)⟩
theorem turn_zr {P : Program} {w : World} {K : PySem.W.Frag} {elts : List Expr} {kk : Nat} {tpos : Pos} {a b z TI TO i1 i2 : Addr} {n m : Nat} (D : ZipApart z TI TO i1 i2 a b) :
    Turn P w K (.Tuple elts kk tpos) (Itr K a b n m) [z, TI, TO, i1, i2] z (fun i h => i ≤ n ∧ i ≤ m ∧ ZR h z TI TO i1 i2 a b (n - i) (m - i)) where
  mem := by simp
  obj := fun i h st c hc => by
    obtain ⟨_, _, hz, hTI, ⟨x, y, hTO⟩, ⟨o1, e1, _, d1⟩, ⟨o2, e2, _, d2⟩⟩ := st
    have e' : c = z ∨ c = TI ∨ c = TO ∨ c = i1 ∨ c = i2 := by simpa using hc
    rcases e' with q | q | q | q | q
    · rw [q]; exact ⟨_, hz, fun v q => nomatch q⟩
    · rw [q]; exact ⟨_, hTI, fun v q => nomatch q⟩
    · rw [q]; exact ⟨_, hTO, fun v q => nomatch q⟩
    · rw [q]; exact ⟨o1, e1, fun v q => by rw [d1] at q; cases q⟩
    · rw [q]; exact ⟨o2, e2, fun v q => by rw [d2] at q; cases q⟩
  keep := fun i h h' st k => by
    obtain ⟨n1, m1, hz, hTI, ⟨x, y, hTO⟩, h1, h2⟩ := st
    exact ⟨n1, m1, k z (by simp) _ hz, k TI (by simp) _ hTI, ⟨x, y, k TO (by simp) _ hTO⟩, h1.at fun o q => k i1 (by simp) o q, h2.at fun o q => k i2 (by simp) o q⟩
  item := by
    intro X hP hw hK hc i pins s σ H E I hf st hg
    subst hP hw hK
    obtain ⟨_, _, st⟩ := st
    obtain ⟨hn, hm, xs, ys, x, y, hqx, hqy, hx, hy⟩ := hg
    obtain ⟨its, rv, p, _⟩ := I.list hqx
    obtain ⟨its2, rv2, p2, _⟩ := I.list hqy
    obtain ⟨u, hu, ru⟩ := rv.get hx
    obtain ⟨u2, hu2, ru2⟩ := rv2.get hy
    have hzl : z < s.heap.objs.size := Heap.lt_size st.z
    have hTI := st.ti
    have en : n - i = (n - 1 - i) + 1 := by omega
    have em : m - i = (m - 1 - i) + 1 := by omega
    have en' : n - 1 - i = n - (i + 1) := by omega
    have em' : m - 1 - i = m - (i + 1) := by omega
    have lz := hzl
    have lTI : TI < s.heap.objs.size := Heap.lt_size st.ti
    have lTO : TO < s.heap.objs.size := by obtain ⟨_, _, e⟩ := st.to; exact Heap.lt_size e
    have l1 : i1 < s.heap.objs.size := st.w1.lt
    have l2 : i2 < s.heap.objs.size := st.w2.lt
    rw [en, em] at st
    refine zr_item D st p.isList p2.isList (x := u) (y := u2) (by simpa using hu) (by simpa using hu2) fun h' z' TO' h1' h2' hT hsz hk => ?_
    refine ⟨_, rfl, wpAny_letOwnedTupleGo_zip (s := { s with heap := h' }) z' fun h'' z'' sb => ?_⟩
    have hT2 : h''.get? s.heap.objs.size = some { cls := .type "tuple", data := .seq #[u, u2] } := (sb.2 _ (Nat.ne_of_gt hzl)).trans hT
    have new : ObjOk X.prog X.w (upd H s.heap.objs.size (.tup [x, y])) h'' s.heap.objs.size (.tup [x, y]) :=
      ⟨by show 2 ≤ sizeLine; decide, [u, u2], .cons ru (.cons ru2 .nil), ⟨_, hT2, rfl, _, rfl⟩⟩
    have I1 : Inv X pins σ (upd H s.heap.objs.size (.tup [x, y])) { s with heap := h'' } :=
      I.turnedNew (t' := s.toks) (ch := [z, TI, TO, i1, i2]) (fun c o hb q => (sb.2 c (fun q' => hb (by simp [q']))).trans (hk c o (fun q' => hb (by simp [q'])) (fun q' => hb (by simp [q'])) (fun q' => hb (by simp [q'])) (fun q' => hb (by simp [q'])) q)) hf (Nat.le_refl _) new
    refine ⟨.ref s.heap.objs.size, _, I1, rfl, ⟨_, x, y, rfl, I.hok.fresh (Nat.le_refl _), rfl, fun l hl => by rw [I.list_inj hl hqx]; exact hx, fun l hl => by rw [I.list_inj hl hqy]; exact hy⟩, ⟨by omega, by omega, z'', ?_, ⟨u, u2, ?_⟩, ?_, ?_⟩, fun c hcm => ?_⟩
    · exact (sb.2 _ D.TIz).trans (hk _ _ D.TIz D.TITO D.TIi1 D.TIi2 hTI)
    · exact (sb.2 _ D.TOz).trans TO'
    · rw [← en']; exact h1'.at fun o q => (sb.2 _ D.i1z).trans q
    · rw [← em']; exact h2'.at fun o q => (sb.2 _ D.i2z).trans q
    · have hlt : c < s.heap.objs.size := by
        have e' : c = z ∨ c = TI ∨ c = TO ∨ c = i1 ∨ c = i2 := by simpa using hcm
        rcases e' with q | q | q | q | q <;> rw [q] <;> assumption
      rw [upd_ne (Nat.ne_of_lt hlt)]
      exact (hf c hcm).1
  done := by
    intro X hP hw hK hc i pins s σ H E I hf st hg
    subst hP hw hK
    obtain ⟨_, _, st⟩ := st
    obtain ⟨xs, ys, hqx, hqy, hl, hend⟩ := hg
    obtain ⟨its, rv, p, _⟩ := I.list hqx
    obtain ⟨its2, rv2, p2, _⟩ := I.list hqy
    have l1 := rv.length
    exact zr_end (I.ok.hd hc) D st p.isList p2.isList (by simp only [List.size_toArray]; omega) (by omega) fun h' hk => ⟨rfl, I.turnedL (t' := s.toks) (ch := [z, TI, TO, i1, i2]) (fun c o hb q =>
      hk c o (fun q' => hb (by simp [q'])) (fun q' => hb (by simp [q'])) (fun q' => hb (by simp [q'])) (fun q' => hb (by simp [q'])) q) hf⟩
  self := fun A i s Q E st h => wpAny_pyIter_zip st.2.2.z h
def iZipR (K : PySem.W.Frag) (ta tb : TE) : TI := fun σ H R => ta σ H fun v H1 => ∃ (a : Addr) (xs : List V), v = .ref a ∧ SqL K H1 a xs ∧ tb σ H1 fun v2 H2 => ∃ (b : Addr) (ys xs' : List V), v2 = .ref b ∧ SqL K H2 b ys ∧ SqL K H2 a xs' ∧ xs'.length = xs.length ∧ R (Itr K a b xs.length ys.length) H2
theorem pi_zipR {X : Cx} {e e2 : Expr} {ta tb : TE} {p p2 p3 pos pos2 pos3 tpos : Pos} {elts : List Expr} {kk : Nat} (hg : Gl X "zip") (hm : X.mg "zip" = none) (hg2 : Gl X "reversed") (hm2 : X.mg "reversed" = none) (ha : PE X e ta) (hb : PE X e2 tb)
    (hs1 : starEach [e] X.env = (false, eval e X.env) :: starEach [] X.env := by rfl) (hs2 : starEach [e2] X.env = (false, eval e2 X.env) :: starEach [] X.env := by rfl)
    (hs3 : starEach [.Call (.Name "reversed" p3) [e2] [] pos3] X.env = (false, eval (.Call (.Name "reversed" p3) [e2] [] pos3) X.env) :: starEach [] X.env := by rfl)
    (hs : starEach [.Call (.Name "reversed" p2) [e] [] pos2, .Call (.Name "reversed" p3) [e2] [] pos3] X.env = (false, eval (.Call (.Name "reversed" p2) [e] [] pos2) X.env) :: starEach [.Call (.Name "reversed" p3) [e2] [] pos3] X.env := by rfl)
    (hpl : (backTo pos (starEach [.Call (.Name "reversed" p3) [e2] [] pos3] X.env)).any (·.1) = false := by rfl) :
    PI X (.Tuple elts kk tpos) (.Call (.Name "zip" p) [.Call (.Name "reversed" p2) [e] [] pos2, .Call (.Name "reversed" p3) [e2] [] pos3] [] pos) (iZipR X.K ta tb) := by
  refine ⟨fun pins s σ H R I h => ?_⟩
  refine Call_ (ld_blt I hg hm PyProof.Rows.boot_zip (PyProof.Rows.callWith_type1 (args_cons (Call_ (ld_blt I hg2 hm2 PyProof.Rows.boot_reversed (PyProof.Rows.callWith_type1 (args_cons (thn (ha.run pins s σ H _ I h) fun u s1 ⟨v, H1, I1, r1, q1⟩ => args_nil ?_) hs1) hs1 rfl))) hs) hs hpl))
  obtain ⟨a, xs, ev, hq, q⟩ := q1
  subst ev
  obtain rfl : u = Value.ref a := r1
  obtain ⟨its, rv, p', hz⟩ := I1.list hq
  have lx := rv.length
  obtain ⟨f0, f1, f2, f3, f4, f5⟩ := I1.fpOk (H' := H1) (b := s1.heap.objs.size) (Nat.le_refl _) (I1.hok.fresh (Nat.le_refl _))
  have k0 : ∀ b o, s1.heap.get? b = some o → (s1.heap.push (revObj a ((its.toArray.size : Int) - 1))).get? b = some o := fun b o e => Heap.get?_push_of_some _ e
  have I2 : Inv X pins σ H1 { s1 with heap := s1.heap.push (revObj a ((its.toArray.size : Int) - 1)) } := I1.kept (t' := s1.toks) k0
  have I3 : Inv X ((s1.heap.objs.size, revObj a ((its.toArray.size : Int) - 1)) :: pins) σ H1 { s1 with heap := s1.heap.push (revObj a ((its.toArray.size : Int) - 1)) } := I2.pins_of fun p hp => by
    rcases List.mem_cons.mp hp with rfl | hp
    · exact ⟨Heap.get?_push_size _ rfl, f0, f1, f2, fun v z => nomatch z⟩
    · exact I2.pin p (List.mem_append_right _ hp)
  have hla : a < s1.heap.objs.size := p'.lt
  refine call_reversed_list p'.isList (args_cons (Call_ (ld_blt I3 hg2 hm2 PyProof.Rows.boot_reversed (PyProof.Rows.callWith_type1 (args_cons (thn (hb.run _ _ σ H1 _ I3 q) fun u2 s2 ⟨v2, H2, I4, r2, q2⟩ => args_nil ?_) hs2) hs2 rfl))) hs3)
  obtain ⟨b, ys, xs', ev, hqy, hqx, hlx, q⟩ := q2
  subst ev
  obtain rfl : u2 = Value.ref b := r2
  obtain ⟨its2, rv2, p2', hz2⟩ := I4.list hqy
  obtain ⟨its3, rv3, p3', hz3⟩ := I4.list hqx
  have ly := rv2.length
  obtain ⟨g0, g1, g2, g3, g4⟩ := I4.pin _ (List.mem_append_right _ (List.mem_cons_self))
  have I5 : Inv X pins σ H2 s2 := I4.pins_of fun p hp => I4.pin p (List.mem_append_right _ (List.mem_cons_of_mem _ hp))
  refine call_reversed_list p2'.isList (args_nil ?_)
  have k1 : ∀ c o, s2.heap.get? c = some o → (s2.heap.push (revObj b ((its2.toArray.size : Int) - 1))).get? c = some o := fun c o e => Heap.get?_push_of_some _ e
  have w1 : LeftOf (s2.heap.push (revObj b ((its2.toArray.size : Int) - 1))) s1.heap.objs.size a xs.length := ⟨_, k1 _ _ g0, rfl, by
    show Data.fields #[.ref a, rawInt ((its.toArray.size : Int) - 1)] = _
    rw [List.size_toArray, ← lx]⟩
  have w2 : LeftOf (s2.heap.push (revObj b ((its2.toArray.size : Int) - 1))) s2.heap.objs.size b ys.length := ⟨_, Heap.get?_push_size _ rfl, rfl, by
    show Data.fields #[.ref b, rawInt ((its2.toArray.size : Int) - 1)] = _
    rw [List.size_toArray, ← ly]⟩
  have hsz2 : (s2.heap.push (revObj b ((its2.toArray.size : Int) - 1))).objs.size = s2.heap.objs.size + 1 := Heap.size_push ..
  have hlt1 : s1.heap.objs.size < s2.heap.objs.size := Heap.lt_size g0
  have hlb : b < s2.heap.objs.size := p2'.lt
  have hla2 : a < s2.heap.objs.size := p3'.lt
  refine call_zr (s := { s2 with heap := s2.heap.push (revObj b ((its2.toArray.size : Int) - 1)) }) w1 w2 fun h' st hsz hk => ?_
  have st' : ZR h' (s2.heap.objs.size + 1 + 2) (s2.heap.objs.size + 1) (s2.heap.objs.size + 1 + 1) s1.heap.objs.size s2.heap.objs.size a b xs.length ys.length := by rw [← hsz2]; exact st
  have hsh : ({ s2 with heap := s2.heap.push (revObj b ((its2.toArray.size : Int) - 1)) } : Shared).heap.objs.size = s2.heap.objs.size + 1 := hsz2
  rw [hsh]
  refine wpAny_pyIter_zip st'.z ?_
  have I6 : Inv X pins σ H2 { s2 with heap := h' } := I5.kept (t' := s2.toks) fun c o e => hk c o (k1 c o e)
  have D : ZipApart (s2.heap.objs.size + 1 + 2) (s2.heap.objs.size + 1) (s2.heap.objs.size + 1 + 1) s1.heap.objs.size s2.heap.objs.size a b := by
    have hne : a ≠ s1.heap.objs.size := Nat.ne_of_lt hla
    have hbi : b ≠ s1.heap.objs.size := fun e => by
      have := p2'.isList
      obtain ⟨o, ho, hc, _⟩ := this
      rw [e, g0] at ho
      cases ho
      simp [revObj] at hc
    have n1 : ∀ {x y : Nat}, x < y → x ≠ y := fun h => Nat.ne_of_lt h
    have n2 : ∀ {x y : Nat}, y < x → x ≠ y := fun h => Nat.ne_of_gt h
    constructor
    · exact n1 (by omega)
    · exact n1 (by omega)
    · exact n1 (by omega)
    · exact n1 (by omega)
    · exact n1 (by omega)
    · exact n2 (by omega)
    · exact n2 (by omega)
    · exact n2 (by omega)
    · exact n2 (by omega)
    · exact n1 (by omega)
    · exact n1 (Nat.lt_of_lt_of_le hla2 (by omega))
    · exact n1 (Nat.lt_of_lt_of_le hla2 (by omega))
    · exact hne
    · exact n1 hla2
    · exact n1 (Nat.lt_of_lt_of_le hlb (by omega))
    · exact n1 (Nat.lt_of_lt_of_le hlb (by omega))
    · exact hbi
    · exact n1 hlb
  refine ⟨s2.heap.objs.size + 1 + 2, [s2.heap.objs.size + 1 + 2, s2.heap.objs.size + 1, s2.heap.objs.size + 1 + 1, s1.heap.objs.size, s2.heap.objs.size], _, _, H2, rfl, I6, turn_zr D, ⟨Nat.zero_le _, Nat.zero_le _, st'⟩, fun c hcm => ?_, q⟩
  have e' : c = s1.heap.objs.size ∨ s2.heap.objs.size ≤ c := by
    have e' : c = s2.heap.objs.size + 1 + 2 ∨ c = s2.heap.objs.size + 1 ∨ c = s2.heap.objs.size + 1 + 1 ∨ c = s1.heap.objs.size ∨ c = s2.heap.objs.size := by simpa using hcm
    rcases e' with z | z | z | z | z
    · right; rw [z]; exact Nat.le_add_right _ 3
    · right; rw [z]; exact Nat.le_add_right _ 1
    · right; rw [z]; exact Nat.le_add_right _ 2
    · left; exact z
    · right; rw [z]; exact Nat.le_refl _
  rcases e' with z | z
  · rw [z]
    exact ⟨g1, f1, f2, f3, f4, f5⟩
  · exact I5.fpOk z (I5.hok.fresh z)

/-! the closure -/
def gZipR (ga gb : Gd) : List Dt → O (List Dt) := fun ρ => bnd (ga ρ) fun d => match lst1 [d] with
  | none => .bad
  | some es => bnd (gb ρ) fun e => match lst1 [e] with
    | none => .bad
    | some fs => .ok (zipD es.reverse fs.reverse)
variable {K : PySem.W.Frag} {W : Wt} {Δ : List Kd}
theorem sc_zipR {c c2 : Addr} {es es2 : List Dt} {n m : Nat} (hn : n = es.length) (hm : m = es2.length) : Sc K (Itr K c c2 n m) none [.ref c, .ref c2] [.list es, .list es2] (zipD es.reverse es2.reverse) where
  goes := fun i H hi ⟨_, F, r⟩ => by
    cases r with
    | cons h r2 =>
      cases r2 with
      | cons h2 _ =>
        obtain ⟨b, xs, e, hs, r⟩ := h.sql
        cases e
        obtain ⟨b, xs2, e, hs2, r2⟩ := h2.sql
        cases e
        have hl : i < es.length ∧ i < es2.length := by unfold zipD at hi; rw [List.length_map, List.length_zip, List.length_reverse, List.length_reverse] at hi; omega
        exact ⟨by omega, by omega, xs, xs2, _, _, hs, hs2, List.getElem?_eq_getElem (by rw [r.length]; omega), List.getElem?_eq_getElem (by rw [r2.length]; omega)⟩
  stops := fun H ⟨_, F, r⟩ => by
    cases r with
    | cons h r2 =>
      cases r2 with
      | cons h2 _ =>
        obtain ⟨b, xs, e, hs, r⟩ := h.sql
        cases e
        obtain ⟨b, xs2, e, hs2, r2⟩ := h2.sql
        cases e
        refine ⟨xs, xs2, hs, hs2, by rw [r.length]; omega, ?_⟩
        unfold zipD
        rw [List.length_map, List.length_zip, List.length_reverse, List.length_reverse]
        omega
  yields := fun i H x H' hi _ y => by
    obtain ⟨T, z, z2, e, nT, eH, y, y2⟩ := y
    subst e eH
    refine ⟨same_upd nT, fun F r => ?_⟩
    cases r with
    | cons h r2 =>
      cases r2 with
      | cons h2 _ =>
        obtain ⟨b, xs, e, hs, r⟩ := h.sql
        cases e
        obtain ⟨b, xs2, e, hs2, r2⟩ := h2.sql
        cases e
        obtain ⟨d, h1, h1'⟩ := r.get (y xs hs)
        obtain ⟨d2, h2, h2'⟩ := r2.get (y2 xs2 hs2)
        have hl : i < es.length ∧ i < es2.length := by unfold zipD at hi; rw [List.length_map, List.length_zip, List.length_reverse, List.length_reverse] at hi; omega
        refine ⟨.tuple [d, d2], ?_, .tup (.inl (.inl upd_same)) (.cons (h1'.same (same_upd nT)) (.cons (h2'.same (same_upd nT)) .nil))⟩
        have g1 : es.reverse[i]? = some d := by rw [List.getElem?_reverse hl.1, ← hn]; exact h1
        have g2 : es2.reverse[i]? = some d2 := by rw [List.getElem?_reverse hl.2, ← hm]; exact h2
        unfold zipD
        rw [List.getElem?_map, List.getElem?_zip_eq_some (z := (d, d2)) |>.mpr ⟨g1, g2⟩]
        rfl
theorem si_zipR {ta tb : TE} {ga gb : Gd} {fr fr2 : Bool} (ha : SE K W Δ ta (.v true fr) ga) (hb : SE K W Δ tb (.v true fr2) gb) : SI K W Δ (iZipR K ta tb) false (fr && fr2) (gZipR ga gb) := fun f ρ σ H Rk R q => by
  refine ha f ρ σ H _ R ?_
  unfold gZipR at q
  cases e1 : ga ρ with
  | bad => rw [e1] at q; exact q
  | ex z => rw [e1] at q; exact q
  | ok d =>
    rw [e1, bnd_ok] at q
    intro v H1 s1 x1
    cases er : lst1 [d] with
    | none => rw [er] at q; exact q.elim
    | some es =>
      rw [er] at q
      dsimp only at q
      have e := lst1_inv er
      cases e
      obtain ⟨c, xs, rfl, hs, r⟩ := x1.sql
      refine ⟨c, xs, rfl, hs, hb f ρ σ H1 _ (R.mono s1) ?_⟩
      cases e2 : gb ρ with
      | bad => rw [e2] at q; exact q
      | ex z => rw [e2] at q; exact fun H' s => q H' (s1.trans s)
      | ok d2 =>
        rw [e2, bnd_ok] at q
        intro v2 H2 s2 x2
        cases er2 : lst1 [d2] with
        | none => rw [er2] at q; exact q.elim
        | some fs =>
          rw [er2] at q
          have e := lst1_inv er2
          cases e
          obtain ⟨c2, ys, rfl, hs2, r2⟩ := x2.sql
          have x1' := x1.same s2
          obtain ⟨c', xs', e, hs', r'⟩ := x1'.sql
          cases e
          refine ⟨c2, ys, xs', rfl, hs2, hs', by rw [r'.length, r.length], ?_⟩
          refine q _ H2 none [.ref c, .ref c2] [.list es, .list fs] (s1.trans s2) (fun _ => rfl) (fun _ e => nomatch e) (.cons (x1'.fm (fun h => h) fun h => (Bool.and_eq_true_iff.mp h).1) (.cons (x2.fm (fun h => h) fun h => (Bool.and_eq_true_iff.mp h).2) .nil)) (sc_zipR r.length r2.length)
theorem i_zipR {X : Cx} {a b : Expr} {ta tb : TE} {ga gb : Gd} {fr fr2 : Bool} {p p2 p3 pos pos2 pos3 tpos : Pos} {elts : List Expr} {kk : Nat} (hm : X.mg "zip" = none) (hm2 : X.mg "reversed" = none) (ha : PD X K W Δ a ta (.v true fr) ga) (hb : PD X K W Δ b tb (.v true fr2) gb) (hg : Gl X "zip" := by rfl) (hg2 : Gl X "reversed" := by rfl)
    (hs1 : starEach [a] X.env = (false, eval a X.env) :: starEach [] X.env := by rfl) (hs2 : starEach [b] X.env = (false, eval b X.env) :: starEach [] X.env := by rfl)
    (hs3 : starEach [.Call (.Name "reversed" p3) [b] [] pos3] X.env = (false, eval (.Call (.Name "reversed" p3) [b] [] pos3) X.env) :: starEach [] X.env := by rfl)
    (hs : starEach [.Call (.Name "reversed" p2) [a] [] pos2, .Call (.Name "reversed" p3) [b] [] pos3] X.env = (false, eval (.Call (.Name "reversed" p2) [a] [] pos2) X.env) :: starEach [.Call (.Name "reversed" p3) [b] [] pos3] X.env := by rfl)
    (hpl : (backTo pos (starEach [.Call (.Name "reversed" p3) [b] [] pos3] X.env)).any (·.1) = false := by rfl) :
    ID X K W Δ (.Tuple elts kk tpos) (.Call (.Name "zip" p) [.Call (.Name "reversed" p2) [a] [] pos2, .Call (.Name "reversed" p3) [b] [] pos3] [] pos) (iZipR K ta tb) false (fr && fr2) (gZipR ga gb) :=
  ⟨by have q := pi_zipR (X := X) (tpos := tpos) (elts := elts) (kk := kk) (p := p) (pos := pos) (p2 := p2) (p3 := p3) (pos2 := pos2) (pos3 := pos3) hg hm hg2 hm2 ha.pe hb.pe hs1 hs2 hs3 hs hpl; rw [ha.hK] at q; exact q, ha.hK, si_zipR ha.se hb.se⟩
theorem zipR_ok {ga gb : Gd} {ρ es fs : List Dt} (h1 : ga ρ = .ok (.list es)) (h2 : gb ρ = .ok (.list fs)) : gZipR ga gb ρ = .ok (zipD es.reverse fs.reverse) := by
  unfold gZipR
  rw [h1, bnd_ok]
  show bnd (gb ρ) _ = _
  rw [h2]
  rfl
end Sim
end T_SimL

section T_SimS
set_option Elab.async false
set_option linter.all false
set_option maxRecDepth 100000
/-! SimS: sorted(list of tuples of ints), sorted(set(..)) of such and of ints: the hand layer's rules. -/
namespace Sim
/-- the order of lists of ints -/
def lxLt : List Int → List Int → Bool
  | _, [] => false
  | [], _ :: _ => true
  | x :: xs, y :: ys => if x = y then lxLt xs ys else decide (x < y)
theorem lxLt_cons (x y : Int) (xs ys : List Int) : lxLt (x :: xs) (y :: ys) = if x = y then lxLt xs ys else decide (x < y) := rfl
theorem lxLt_irr : ∀ xs : List Int, lxLt xs xs = false
  | [] => rfl
  | x :: xs => by rw [lxLt_cons, if_pos rfl, lxLt_irr xs]
theorem lxLt_trans : ∀ {xs ys zs : List Int}, lxLt xs ys = true → lxLt ys zs = true → lxLt xs zs = true
  | [], [], _, h, _ => by cases h
  | _ :: _, [], _, h, _ => by cases h
  | _, _ :: _, [], _, h => by cases h
  | [], _ :: _, _ :: _, _, _ => rfl
  | x :: xs, y :: ys, z :: zs, h, k => by
    rw [lxLt_cons] at h k ⊢
    by_cases e1 : x = y
    · rw [if_pos e1] at h
      subst e1
      by_cases e2 : x = z
      · rw [if_pos e2] at k ⊢
        exact lxLt_trans h k
      · rw [if_neg e2] at k ⊢
        exact k
    · rw [if_neg e1, decide_eq_true_eq] at h
      by_cases e2 : y = z
      · subst e2
        rw [if_neg e1, decide_eq_true_eq]
        exact h
      · rw [if_neg e2, decide_eq_true_eq] at k
        rw [if_neg (by omega), decide_eq_true_eq]
        omega
theorem lxLt_tri : ∀ {xs ys : List Int}, lxLt xs ys = false → lxLt ys xs = false → xs = ys
  | [], [], _, _ => rfl
  | [], _ :: _, h, _ => by cases h
  | _ :: _, [], _, h => by cases h
  | x :: xs, y :: ys, h, k => by
    rw [lxLt_cons] at h k
    by_cases e : x = y
    · rw [if_pos e] at h
      rw [if_pos e.symm] at k
      rw [e, lxLt_tri h k]
    · rw [if_neg e, decide_eq_false_iff_not] at h
      rw [if_neg (fun z => e z.symm), decide_eq_false_iff_not] at k
      omega
/-- how many of L are less -/
def lrk (L : List (List Int)) (ns : List Int) : Int := ((L.countP fun u => lxLt u ns) : Nat)
theorem count_le {α : Type} {f g : α → Bool} (h : ∀ u, f u = true → g u = true) : ∀ L : List α, L.countP f ≤ L.countP g
  | [] => Nat.le_refl _
  | x :: L => by
    have ih := count_le h L
    rw [List.countP_cons, List.countP_cons]
    cases e : f x with
    | true => rw [h x e]; simp; exact ih
    | false => simp; omega
theorem count_lt {α : Type} {f g : α → Bool} (h : ∀ u, f u = true → g u = true) {p : α} (h1 : f p = false) (h2 : g p = true) : ∀ L : List α, p ∈ L → L.countP f < L.countP g
  | x :: L, hp => by
    rw [List.countP_cons, List.countP_cons]
    rcases List.mem_cons.mp hp with e | hp
    · subst e
      have ih := count_le h L
      rw [h1, h2]
      simp
      omega
    · have ih := count_lt h h1 h2 L hp
      cases e : f x with
      | true => rw [h x e]; simp; exact ih
      | false => simp; omega
theorem lrk_lt {L : List (List Int)} {p q : List Int} (hp : p ∈ L) (hq : q ∈ L) : decide (lrk L p < lrk L q) = lxLt p q := by
  unfold lrk
  cases e : lxLt p q with
  | true =>
    rw [decide_eq_true_eq]
    have := count_lt (f := fun u => lxLt u p) (g := fun u => lxLt u q) (fun u h => lxLt_trans h e) (lxLt_irr p) e L hp
    omega
  | false =>
    rw [decide_eq_false_iff_not]
    cases e2 : lxLt q p with
    | true =>
      have := count_lt (f := fun u => lxLt u q) (g := fun u => lxLt u p) (fun u h => lxLt_trans h e2) (lxLt_irr q) e2 L hq
      omega
    | false =>
      rw [lxLt_tri e e2]
      omega
theorem lift_perm_to {α β : Type} (f : α → β) : ∀ {ys zs : List β}, ys.Perm zs → ∀ L : List α, zs = L.map f → ∃ L' : List α, L'.Perm L ∧ ys = L'.map f := by
  intro ys zs h
  induction h with
  | nil =>
    intro L e
    have : L = [] := List.map_eq_nil_iff.mp e.symm
    subst this
    exact ⟨[], List.Perm.refl _, rfl⟩
  | cons x _ ih =>
    intro L e
    cases L with
    | nil => cases e
    | cons a L =>
      rw [List.map_cons] at e
      injection e with e1 e2
      obtain ⟨L', h1, h2⟩ := ih L e2
      exact ⟨a :: L', h1.cons a, by rw [List.map_cons, e1, h2]⟩
  | swap x y l =>
    intro L e
    cases L with
    | nil => cases e
    | cons a L =>
      cases L with
      | nil => rw [List.map_cons, List.map_nil] at e; injection e with e1 e2; cases e2
      | cons b L =>
        rw [List.map_cons, List.map_cons] at e
        injection e with e1 e2
        injection e2 with e2 e3
        exact ⟨b :: a :: L, List.Perm.swap .., by rw [List.map_cons, List.map_cons, e1, e2, e3]⟩
  | trans _ _ ih1 ih2 =>
    intro L e
    obtain ⟨L2, h1, h2⟩ := ih2 L e
    obtain ⟨L3, h3, h4⟩ := ih1 L2 h2
    exact ⟨L3, h3.trans h1, h4⟩
end Sim
namespace TS
open PySem PyProof.Rows Sim
section
variable {prog : Program} {w : World} {A : Around} {E : Value → Shared → Prop} {s : Shared} {Q : Bool → Shared → Prop}
theorem lex_gen {b : Bool} {xs ys : List Value} {ns ms : List Int} (i : Nat) (hx : IntsAre xs ns) (hy : IntsAre ys ms) (h : Q (lxLt ns ms) s) : PySem.W.KatLex prog w A b (decide (ns.length < ms.length)) Q (xs.zip ys) i s := by
  induction hx generalizing ys ms i with
  | nil =>
    cases hy with
    | nil => exact PySem.W.kat_nil h
    | cons q u hy => exact PySem.W.kat_nil (by rw [show decide (([] : List Int).length < (q :: _).length) = true by simp]; exact h)
  | @cons p t xs ns hx ih =>
    cases hy with
    | nil => exact PySem.W.kat_nil (by rw [show decide ((p :: ns).length < ([] : List Int).length) = false by simp]; exact h)
    | @cons q u ys ms hy =>
      have e0 : decide ((p :: ns).length < (q :: ms).length) = decide (ns.length < ms.length) := by simp
      rw [e0]
      show PySem.W.KatLex prog w A b _ Q ((Value.int p t, Value.int q u) :: xs.zip ys) i s
      rw [lxLt_cons] at h
      refine PySem.W.kat_cons (wpAny_eqBool_int ?_)
      by_cases e : p = q
      · rw [if_pos e] at h
        subst e
        rw [beq_self_eq_true]
        exact PySem.W.kat_yes (ih (i + 1) hy h)
      · rw [if_neg e] at h
        rw [show (p == q) = false from beq_eq_false_iff_ne.mpr e]
        exact PySem.W.kat_no (oneLt_ints _ h)
end
/-- tuples of ints, none empty -/
def TupsL (h : Heap) (vs : List Value) : Prop := ∀ v, v ∈ vs → ∃ ns, TupInts h v ns ∧ ns ≠ []
theorem TupsL.keeps {h h' : Heap} {vs : List Value} (x : TupsL h vs) (k : ∀ b o, h.get? b = some o → o.cls = .type "tuple" → h'.get? b = some o) : TupsL h' vs := fun v hv =>
  let ⟨ns, t, r⟩ := x v hv; ⟨ns, t.keeps k, r⟩
theorem firsts_lex {h : Heap} : ∀ vs : List Value, TupsL h vs → ∃ fs, PySem.W.KatTups h vs fs ∧ fs.length = vs.length ∧ ∀ f, f ∈ fs → ∃ n t, f = Value.int n t
  | [], _ => ⟨[], PySem.W.KatTups.nil, rfl, fun f hf => by simp at hf⟩
  | v :: vs, x => by
    obtain ⟨fs, k, hl, hi⟩ := firsts_lex vs fun u hu => x u (List.mem_cons_of_mem _ hu)
    obtain ⟨ns, ⟨a, xs, rfl, ⟨o, ho, hc, n, hdt⟩, i⟩, hn⟩ := x v (List.mem_cons_self ..)
    obtain ⟨y, ys, e⟩ : ∃ y ys, xs.toList = y :: ys := by
      cases q : xs.toList with
      | nil =>
        rw [q] at i
        cases i
        exact absurd rfl hn
      | cons y ys => exact ⟨y, ys, rfl⟩
    obtain ⟨m, t, hy⟩ := i.all y (by rw [e]; exact List.mem_cons_self ..)
    refine ⟨y :: fs, PySem.W.KatTups.cons ho hc hdt ?_ k, by simp [hl], fun f hf => ?_⟩
    · have z := congrArg (fun l : List Value => l[0]?) e
      simpa using z
    · rcases List.mem_cons.mp hf with rfl | hf
      · exact ⟨m, t, hy⟩
      · exact hi f hf
section
variable {prog : Program} {w : World} {A : Around} {E : Value → Shared → Prop} {s : Shared}
theorem kind_lex {vs : List Value} (h2 : 2 ≤ vs.length) (x : TupsL s.heap vs) (r : Value → Int) (hr : ∀ v, v ∈ vs → ∀ u, u ∈ vs → ∀ ns ms, TupInts s.heap v ns → TupInts s.heap u ms → decide (r v < r u) = lxLt ns ms) (Q : SortKind → Shared → Prop)
    (h : ∀ κ, Cmp prog w A s κ (pairsOf vs) r → Q κ s) : wpAny (model prog w) A (keyKind' vs.toArray) Q E s := by
  obtain ⟨fs, k, hl, hi⟩ := firsts_lex vs x
  refine PySem.W.kat_kind (T := Value.type "int") k (by omega) (fun f hf => ?_) rfl (h _ fun p q hp hq Q' E' hQ => ?_)
  · obtain ⟨n, t, rfl⟩ := hi f hf
    exact PySem.W.Looks.of_pure rfl
  · rw [pairsOf_toList] at hp hq
    obtain ⟨ns, tp, _⟩ := x _ (mem_zip_self hp).2
    obtain ⟨ms, tq, _⟩ := x _ (mem_zip_self hq).2
    have hQ' : Q' (lxLt ns ms) s := by
      rw [← hr _ (mem_zip_self hp).2 _ (mem_zip_self hq).2 ns ms tp tq]
      exact hQ
    obtain ⟨a, xs, e1, ⟨o, ho, hc, n, hdt⟩, i⟩ := tp
    obtain ⟨a', ys, e2, ⟨o', ho', hc', n', hdt'⟩, i'⟩ := tq
    rw [e1, e2]
    refine PySem.W.kat_lt ho hdt ho' hdt' ?_
    have l1 := i.length
    have l2 := i'.length
    rw [Array.length_toList] at l1 l2
    rw [l1, l2]
    exact lex_gen 0 i i' hQ'
/-- the sort of a list of tuples of ints -/
theorem sort_lex {a : Addr} {vs : List Value} {n : Nat} {P : PySem.Fin → Shared → Prop} (ho : s.heap.get? a = some (seqObj "list" vs.toArray n)) (h64 : vs.length < 64) (x : TupsL s.heap vs)
    (h : ∀ out : Array Value, out.toList.Perm vs → out.toList.Pairwise (fun u v => lxLt (intsOf s.heap v) (intsOf s.heap u) = false) → P (.done (.ret .none)) { s with heap := sortedHeap s.heap a vs out }) :
    wpAny (model prog w) A (Builtin.«list.sort» ⟨[.ref a], []⟩) P E s := by
  have keep : ∀ b o, s.heap.get? b = some o → o.cls = .type "tuple" → (midHeap s.heap a vs).get? b = some o := fun b o e hc => by
    refine midHeap_old ?_ e
    rintro rfl
    rw [ho] at e
    cases Option.some.inj e
    exact absurd hc (by simp [seqObj])
  have mem : ∀ v, v ∈ vs → intsOf s.heap v ∈ vs.map (intsOf s.heap) := fun v hv => List.mem_map.mpr ⟨v, hv, rfl⟩
  refine SK.plain_sort (r := fun v => lrk (vs.map (intsOf s.heap)) (intsOf s.heap v)) ho h64 (fun h2 Q hQ => ?_) fun ps out h1 h2 h3 => ?_
  · refine kind_lex (s := { s with heap := midHeap s.heap a vs }) h2 (x.keeps keep) _ (fun v hv u hu ns ms tv tu => ?_) Q hQ
    obtain ⟨ns0, t0, _⟩ := x v hv
    obtain ⟨ms0, t1, _⟩ := x u hu
    have e : ns = ns0 := tv.ints.symm.trans (t0.keeps keep).ints
    have e' : ms = ms0 := tu.ints.symm.trans (t1.keeps keep).ints
    rw [e, e', ← t0.ints, ← t1.ints]
    exact lrk_lt (mem v hv) (mem u hu)
  · obtain ⟨p, o⟩ := out_rank (r := fun v => lrk (vs.map (intsOf s.heap)) (intsOf s.heap v)) h1 h2 h3
    refine h out p (List.Pairwise.imp_of_mem (fun {u v} hu hv hle => ?_) o)
    rw [← lrk_lt (mem v (p.mem_iff.mp hv)) (mem u (p.mem_iff.mp hu)), decide_eq_false_iff_not]
    omega
theorem call_sort_lex {a : Addr} {vs : List Value} {n : Nat} {Q : Value → Shared → Prop} (ho : s.heap.get? a = some (seqObj "list" vs.toArray n)) (h64 : vs.length < 64) (x : TupsL s.heap vs)
    (h : ∀ out : Array Value, out.toList.Perm vs → out.toList.Pairwise (fun u v => lxLt (intsOf s.heap v) (intsOf s.heap u) = false) → Q .none { s with heap := sortedHeap s.heap a vs out }) :
    wpAny (model prog w) A (call (.builtin "list.sort") [.ref a]) Q E s :=
  wpAny_call_entry slot_list_sort ⟨_, ho, rfl⟩ entry_list_sort (sort_lex ho h64 x fun out h1 h2 => ⟨_, rfl, h out h1 h2⟩) (args_list_sort _)
theorem sorted_lex {l : Addr} {vs : List Value} {Q : Value → Shared → Prop} (hl : s.heap.IsList l vs.toArray) (h64 : vs.length < 64) (x : TupsL s.heap vs)
    (h : ∀ out : Array Value, out.toList.Perm vs → out.toList.Pairwise (fun u v => lxLt (intsOf s.heap v) (intsOf s.heap u) = false) → Q (.ref (s.heap.objs.size + 1)) { s with heap := sortedAll s.heap vs out }) :
    wpAny (model prog w) A (call (.builtin "sorted") [.ref l]) Q E s := by
  refine Calls.call_function_entry kind_sorted plain_sorted entry_sorted (args_sorted1 _) ?_
  unfold Builtin.«sorted»
  refine wpAny_bind (m := checkCount "sorted" 1 1 _) (wpAny_pure ?_)
  refine wpAny_bind (collect_list hl ?_ (by rw [sizeLine_eq]; omega))
  refine wpAny_bind (wpAny_newList ?_ (by rw [sizeLine_eq]; omega))
  have hsz : ((s.heap.push (seqObj "list" #[] 0)).update s.heap.objs.size (Obj.mapSeq (· ++ vs.toArray))).objs.size = s.heap.objs.size + 1 := by rw [Heap.size_update, size_push']
  have hoL : (((s.heap.push (seqObj "list" #[] 0)).update s.heap.objs.size (Obj.mapSeq (· ++ vs.toArray))).push (seqObj "list" vs.toArray 0)).get? (s.heap.objs.size + 1) = some (seqObj "list" vs.toArray 0) := by rw [← hsz]; exact Heap.get?_push_size _ rfl
  have keep : ∀ b o, s.heap.get? b = some o → o.cls = .type "tuple" → (((s.heap.push (seqObj "list" #[] 0)).update s.heap.objs.size (Obj.mapSeq (· ++ vs.toArray))).push (seqObj "list" vs.toArray 0)).get? b = some o := fun b o q _ => by
    have hlt : b < s.heap.objs.size := Heap.lt_size q
    rw [Heap.get?_push_ne _ _ _ (by rw [hsz]; exact Nat.ne_of_lt (Nat.lt_succ_of_lt hlt)), Heap.get?_update_ne _ _ _ _ (Nat.ne_of_lt hlt), Heap.get?_push_ne _ _ _ (Nat.ne_of_lt hlt)]
    exact q
  show wpAny _ _ _ _ _ { s with heap := ((s.heap.push (seqObj "list" #[] 0)).update s.heap.objs.size (Obj.mapSeq (· ++ vs.toArray))).push (seqObj "list" vs.toArray 0) }
  rw [hsz]
  refine wpAny_bind (wpAny_holding (wpAny_call_entry slot_list_sort ⟨_, hoL, rfl⟩ entry_list_sort (sort_lex hoL h64 (x.keeps keep) fun out a1 a2 => ⟨_, rfl, ?_⟩) (args_list_sort _)))
  refine wpAny_pure ⟨_, rfl, h out a1 (List.Pairwise.imp_of_mem (fun {u v} hu hv hlt => ?_) a2)⟩
  have one : ∀ v, v ∈ out.toList → intsOf (((s.heap.push (seqObj "list" #[] 0)).update s.heap.objs.size (Obj.mapSeq (· ++ vs.toArray))).push (seqObj "list" vs.toArray 0)) v = intsOf s.heap v := fun v hv => by
    obtain ⟨ns, t, _⟩ := x v (a1.mem_iff.mp hv)
    rw [(t.keeps keep).ints, t.ints]
  rw [← one v hv, ← one u hu]
  exact hlt
end
end TS
end T_SimS

section T_SimT
set_option Elab.async false
set_option linter.all false
set_option maxRecDepth 100000
/-! SimT: sorted(set(list)), sorted(list) of tuples; tuple(range): rules and closures. -/
namespace L2
open PySem PySem.Spec PyProof.Rows Sim
section
variable {P : Program} {w : World} {A : Around} {E : Value → Shared → Prop} {s : Shared}
abbrev freshSet (w : World) : Obj := { cls := .type "set", dict := none, data := .set #[] 0 (.fresh 0 0 (!w.params.followText "set-order")) }
set_option maxHeartbeats 3200000 in
/-- set(xs), xs a list of ints: as the walk over a set wants it -/
theorem call_set_lstI {l : Addr} {items : Array Value} (ns : List Int) {Q : Value → Shared → Prop} (hh : A.handled = none) (hl : s.heap.IsList l items) (hit : IntsAre items.toList ns) (hb : ns.length + 1 < scanBound)
    (h : ∀ (h' : Heap) (tk c : Nat), SetR w h' s.heap.objs.size (fun j => decide (j ∈ ns)) c → c ≤ ns.length → (∀ b o, s.heap.get? b = some o → h'.get? b = some o) → Q (.ref s.heap.objs.size) { s with heap := h', toks := tk }) :
    wpAny (model P w) A (call (.type "set") [.ref l]) Q E s := by
  have hisz : items.size = ns.length := by
    have q := IntsAre.length hit
    rwa [Array.length_toList] at q
  obtain ⟨c, tl, hmro⟩ := F.called_set.mro
  have hmade := F.called_set.made
  have hsub := F.called_set.sub
  refine wpAny_call (codeAny_of_tree ?_)
  show wpAny _ _ (callAny (.type "set") _) _ _ _
  refine wpAny_pure ⟨Code.quiet_builtin _ (by decide +kernel), codeAny_builtin F.entry_type_call ?_⟩
  rw [Around.under_plain (weight_type_call_type "set" [.ref l] []) rfl]
  have h1 := F.called_set.notType
  have h2 := F.called_set.canCreate
  have hct := F.typeCall_set_1 (.ref l)
  repeat (any_goals (first | assumption | wp_step))
  refine codeAny_mono (code_set_led1 (.ref l) (E := E) (Q₁ := fun obj s₁ => obj = .ref s.heap.objs.size ∧ s₁ = { s with heap := s.heap.push (freshSet w) }) ⟨rfl, rfl⟩) fun r s₁ hr => ?_
  cases r with
  | error e => exact hr
  | ok fl =>
    cases fl with
    | ret obj =>
      obtain ⟨rfl, rfl⟩ := hr
      have hS : (s.heap.push (freshSet w)).get? s.heap.objs.size = some (freshSet w) := Heap.get?_push_size _ rfl
      have hT : Shared.TypeIs { s with heap := s.heap.push (freshSet w) } (.ref s.heap.objs.size) "set" := ⟨_, hS, rfl⟩
      have hli := F.called_set.init.lookup
      have hbi := F.called_set.init.bind (.ref s.heap.objs.size)
      repeat (any_goals (first | assumption | wp_step))
      refine codeAny_mono (codeAny_call_builtin (R := wants (fun r s₂ => r = .none ∧ ∃ h' tk c, s₂ = { s with heap := h', toks := tk } ∧ SetR w h' s.heap.objs.size (fun j => decide (j ∈ ns)) c ∧ c ≤ ns.length ∧
          (∀ b o, s.heap.get? b = some o → h'.get? b = some o)) E) F.called_set.init.plain F.entry_set_init (check_set_init_1 hT ?_)) fun r₂ s₂ hr₂ => ?_
      · obtain ⟨ol, hol, hcl, nl, hdl⟩ := hl
        obtain ⟨ocls, odict, odata, oslots⟩ := ol
        simp only at hcl hdl
        subst hcl; subst hdl
        have hol' : (s.heap.push (freshSet w)).get? l = some { cls := .type "list", dict := odict, data := .seq items nl, slots := oslots } := Heap.get?_push_of_some _ hol
        have hsls := F.sub_list_set
        have hslf := F.sub_list_frozenset
        have hne : (Value.type "list" == Value.type "dict") = false := by decide
        have hl1 : (s.heap.push (freshSet w)).IsList l items := ⟨_, hol', rfl, nl, rfl⟩
        unfold Builtin.«set.__init__» noKeywords Builtin.Frozenset.updateFrom
        generalize hPI : pyIter = PI
        wp_walk
        subst hPI
        refine wpAny_pyIter_list hl1 ?_
        refine wpAny_bind (wpAny_runValue ?_)
        have hlS : l < s.heap.objs.size := Heap.lt_size hol
        have hh3 : A.in1.in1.in1.handled = none := by simp [hh]
        have hneI : l ≠ (s.heap.push (freshSet w)).objs.size := by
          rw [Heap.size_push]; exact Nat.ne_of_lt (Nat.lt_succ_of_lt hlS)
        have hSf : s.heap.objs.size ∉ [(s.heap.push (freshSet w)).objs.size, l] := by
          rw [Heap.size_push]; simp only [List.mem_cons, List.mem_singleton, List.not_mem_nil, or_false, not_or]
          exact ⟨Nat.ne_of_lt (Nat.lt_succ_self _), Nat.ne_of_gt hlS⟩
        have hval : ∀ (i : Nat) (v : Value), items[i]? = some v → ∃ k t, ns[i]? = some k ∧ v = .int k t := fun i v hv => by
          have hi : i < ns.length := by rw [← hisz]; exact (Array.getElem?_eq_some_iff.mp hv).1
          obtain ⟨t, e⟩ := PyProof.Rows.IntsAre.int_at hit i v (by rw [Array.getElem?_toList]; exact hv)
          refine ⟨ns[i], t, List.getElem?_eq_getElem hi, ?_⟩
          rw [e, List.getD_eq_getElem?_getD, List.getElem?_eq_getElem hi] <;> rfl
        refine set_update_ints ((Walks.list hh3 _ l hneI items).toS) s.heap.objs.size
          hSf ns hisz hb hval (items.size - 0) 0 _ (by omega) (Nat.zero_le _)
          ⟨⟨_, Heap.get?_push_size _ rfl, rfl, rfl⟩, (hl1.push _)⟩ ?hS0 ?hR
        case hS0 =>
          have hget : ((s.heap.push (freshSet w)).push { cls := .type "list_iterator", data := .fields #[.ref l, .int 0 0] }).get? s.heap.objs.size = some (freshSet w) := Heap.get?_push_of_some _ hS
          exact ⟨0, Nat.le_refl 0, setR_new_at hget⟩
        case hR =>
          intro s' c' hm hc' hS'
          obtain ⟨h', g2, d', tk', os'⟩ := s'
          have eg : g2 = s.gens := hm.gens
          have ed : d' = s.drawn := hm.drawn
          have eo : os' = s.os := hm.os
          subst eg; subst ed; subst eo
          show wpAny _ _ _ _ _ _
          refine wpAny_pure ?_
          show wpAny _ _ (ret Value.none) _ _ _
          rw [hisz] at hc'
          refine wpAny_pure ⟨rfl, h', tk', c', rfl, hS', hc', fun b o e => ?_⟩
          have hb0 : b < s.heap.objs.size := Heap.lt_size e
          have hb1 : b ≠ s.heap.objs.size := Nat.ne_of_lt hb0
          have hb2 : b ≠ (s.heap.push (freshSet w)).objs.size := by
            rw [Heap.size_push]; exact Nat.ne_of_lt (Nat.lt_succ_of_lt hb0)
          exact hm.heap b o (by simp only [List.mem_cons, List.mem_singleton, List.not_mem_nil, or_false, not_or]; exact ⟨hb1, hb2⟩) (Heap.get?_push_of_some _ (Heap.get?_push_of_some _ e))
      · cases r₂ with
        | error e => exact hr₂
        | ok fl₂ =>
          cases fl₂ with
          | ret r =>
            obtain ⟨rfl, h', tk, c', rfl, hS', hc', hk'⟩ := hr₂
            repeat (any_goals (first | assumption | wp_step))
            exact h _ _ _ hS' hc' hk'
          | _ => exact hr₂.elim
    | _ => exact hr.elim
/-- sorted(set) of tuples of ints, of any lengths -/
theorem sorted_setL {a : Addr} {L : List (Addr × List Int)} {es : Array (Int × Value)} {ep : Nat} {t : SetTable} {Q : Value → Shared → Prop} (R : SetTR P w s.heap a L es ep t) (hh : A.handled = none) (hne : ∀ p ∈ L, p.2 ≠ [])
    (hQ : ∀ s' p (out : Array Value) (c : Nat) (L' : List (Addr × List Int)), (∀ b o, s.heap.get? b = some o → s'.heap.get? b = some o) → s'.gens = s.gens → s'.os = s.os → s.heap.objs.size ≤ p →
      s'.heap.get? p = some (seqObj "list" out c) → out.toList = L'.map (fun q => Value.ref q.1) → L'.Perm L → L'.Pairwise (fun q r => lxLt r.2 q.2 = false) → Q (.ref p) s') :
    wpAny (model P w) A (call (.builtin "sorted") [.ref a]) Q E s := by
  obtain ⟨o, ho, hex, hd⟩ := R.ob
  have hfew := R.few
  have hsz := R.size
  refine Calls.call_function_entry kind_sorted plain_sorted entry_sorted (args_sorted1 _) ?_
  unfold Builtin.«sorted»
  refine wpAny_bind (m := checkCount "sorted" 1 1 _) (wpAny_pure ?_)
  refine wpAny_bind (collect_set (A := A.in1) hh ⟨o, ho, hex.1, hd⟩ R.fits (by unfold scanBound; omega) R.tab.ris R.led fun s1 vs k1 hz g1 o1 pm => ?_)
  have hes : es.toList.map (·.2) = L.map fun q => Value.ref q.1 := by
    rw [R.rows]
    unfold rowsOf
    rw [List.map_map]
    rfl
  rw [hes] at pm
  have hvl : vs.length < 64 := by rw [pm.length_eq, List.length_map]; exact hfew
  refine wpAny_bind (wpAny_newList ?_ (by rw [sizeLine_eq]; omega))
  have hoL : (s1.heap.push (seqObj "list" vs.toArray 0)).get? s1.heap.objs.size = some (seqObj "list" vs.toArray 0) := Heap.get?_push_size _ rfl
  have tk : ∀ q ∈ L, TS.TupInts (s1.heap.push (seqObj "list" vs.toArray 0)) (.ref q.1) q.2 := fun q hq => tupInts_of (P := P) (w := w) (isT_keep (R.tup q hq) fun b u e => Heap.get?_push_of_some _ (k1 b u e))
  have x : TS.TupsL (s1.heap.push (seqObj "list" vs.toArray 0)) vs := fun v hv => by
    obtain ⟨q, hq, e⟩ := List.mem_map.mp (pm.mem_iff.mp hv)
    rw [← e]
    exact ⟨q.2, tk q hq, hne q hq⟩
  refine wpAny_bind (wpAny_holding (TS.call_sort_lex (s := { s1 with heap := s1.heap.push (seqObj "list" vs.toArray 0) }) hoL hvl x fun out a1 a2 => ?_))
  obtain ⟨c, hc⟩ := sortedHeap_at (vs := vs) (out := out) hoL
  obtain ⟨L', pL, e'⟩ := lift_perm_to (fun q : Addr × List Int => Value.ref q.1) (a1.trans pm) L rfl
  refine wpAny_pure ⟨_, rfl, hQ _ s1.heap.objs.size out c L' (fun b u e => ?_) g1 o1 hz hc e' pL ?_⟩
  · have q := k1 b u e
    have hlt := Heap.lt_size q
    show (sortedHeap (s1.heap.push (seqObj "list" vs.toArray 0)) s1.heap.objs.size vs out).get? b = some u
    rw [sortedHeap_old (Nat.ne_of_lt hlt) (by rw [size_push']; exact Nat.lt_succ_of_lt hlt)]
    exact Heap.get?_push_of_some _ q
  · rw [e'] at a2
    refine List.Pairwise.imp_of_mem (fun {q r} hq hr hle => ?_) (List.pairwise_map.mp a2)
    rw [← (tk q (pL.mem_iff.mp hq)).ints, ← (tk r (pL.mem_iff.mp hr)).ints]
    exact hle
end
end L2
namespace Sim
open PySem PySem.Spec L2
open PyProof.Rows hiding St
section
variable {X : Cx}
/-- sorted(xs), xs a list of tuples of ints -/
def rSortL (K : PySem.W.Frag) : List V → Hp → VK → Prop := fun vs H Q => ∃ (a : Addr) (L : List (Addr × List Int)), vs = [V.ref a] ∧ SqL K H a (L.map fun p => V.ref p.1) ∧ L.length < 64 ∧ (∀ p ∈ L, SqT K H p.1 (p.2.map V.int) ∧ p.2 ≠ []) ∧
  ∀ (L' : List (Addr × List Int)) (p : Addr), L'.Perm L → L'.Pairwise (fun q r => lxLt r.2 q.2 = false) → H p = none → Q (.ref p) (upd H p (.lst (L'.map fun q => V.ref q.1)))
theorem cr_sortL : CallR X (.builtin "sorted") (rSortL X.K) := by
  intro pins s σ H vs us Q I r h
  obtain ⟨a, L, rfl, hs, h64, hx, q⟩ := h
  obtain ⟨its, rv, hl, hz⟩ := I.list hs
  rw [Vals.ref1 r]
  have eits := refs_of_vals rv
  have tk : ∀ p ∈ L, TS.TupInts s.heap (.ref p.1) p.2 := fun p hp => tupI_raw I (hx p hp).1
  refine TS.sorted_lex hl.isList (by rw [← rv.length, List.length_map]; exact h64) (fun v hv => ?_) fun out h1 h2 => ?_
  · rw [eits] at hv
    obtain ⟨p, hp, e⟩ := List.mem_map.mp hv
    rw [← e]
    exact ⟨p.2, tk p hp, (hx p hp).2⟩
  · obtain ⟨ep, he'⟩ := PyProof.Rows.sortedAll_at s.heap its out
    obtain ⟨L', pL, e'⟩ := lift_perm_to (fun q : Addr × List Int => Value.ref q.1) h1 L eits
    have hlen : (L'.map fun q => V.ref q.1).length ≤ sizeLine := by rw [List.length_map, pL.length_eq, sizeLine_eq]; omega
    have hv : Vals (L'.map fun q => V.ref q.1) out.toList := by rw [e']; exact vals_of_refs L'
    refine ⟨.ref _, upd H (s.heap.objs.size + 1) (.lst (L'.map fun q => V.ref q.1)), I.laid (t' := s.toks) (fun _ _ => PyProof.Rows.sortedAll_old) (Nat.le_succ _) ⟨hlen, out.toList, ep, hv, he'⟩, rfl, q L' _ pL ?_ (I.hok.fresh (Nat.le_succ _))⟩
    rw [e'] at h2
    refine List.Pairwise.imp_of_mem (fun {q r} hq hr hle => ?_) (List.pairwise_map.mp h2)
    rw [← (tk q (pL.mem_iff.mp hq)).ints, ← (tk r (pL.mem_iff.mp hr)).ints]
    exact hle
/-- sorted(set(xs)) of ints -/
def tSortSetI (K : PySem.W.Frag) (te : TE) : TE := fun σ H Q => te σ H fun x H1 => ∃ (l : Addr) (ns : List Int), x = V.ref l ∧ SqL K H1 l (ns.map V.int) ∧ ns.length < 64 ∧
  ∀ (ns' : List Int) (p : Addr), ns'.Pairwise (· < ·) → (∀ k, k ∈ ns' ↔ k ∈ ns) → H1 p = none → Q (.ref p) (upd H1 p (.lst (ns'.map V.int)))
/-- sorted(set(xs)) of tuples of ints -/
def tSortSetT (K : PySem.W.Frag) (te : TE) : TE := fun σ H Q => te σ H fun x H1 => ∃ (l : Addr) (ks : List (Addr × List Int)), x = V.ref l ∧ SqL K H1 l (ks.map fun p => V.ref p.1) ∧ (∀ p ∈ ks, SqT K H1 p.1 (p.2.map V.int) ∧ p.2 ≠ []) ∧ ks.length < 64 ∧
  ∀ (L : List (Addr × List Int)) (p : Addr), (∀ q ∈ L, q ∈ ks) → (∀ q ∈ ks, q.2 ∈ L.map (·.2)) → (L.map (·.2)).Nodup → L.Pairwise (fun q r => lxLt r.2 q.2 = false) → H1 p = none → Q (.ref p) (upd H1 p (.lst (L.map fun q => V.ref q.1)))
variable {a : Expr} {ta te : TE} {p p2 q pos : Pos}
theorem pe_sortSetI (hc : X.calm = true) (hg : Gl X "sorted") (hm : X.mg "sorted" = none) (hg2 : Gl X "set") (hm2 : X.mg "set" = none) (ha : PE X a ta)
    (na : starEach [a] X.env = (false, eval a X.env) :: starEach [] X.env := by rfl) : PE X (.Call (.Name "sorted" p) [.Call (.Name "set" p2) [a] [] q] [] pos) (tSortSetI X.K ta) := by
  refine ⟨fun pins s σ H Q I h => ?_⟩
  refine Call_ (ld_blt I hg hm (by decide +kernel : bootBuiltins "sorted" = some (.builtin "sorted")) ?_)
  refine PyProof.Rows.callWith_builtin1 (PyProof.Rows.args_cons ?_ rfl) rfl rfl
  refine Call_ (ld_blt I hg2 hm2 PyProof.Rows.boot_set ?_)
  refine PyProof.Rows.callWith_type1 (PyProof.Rows.args_cons (thn (ha.run pins s σ H _ I h) fun v s1 ⟨x, H1, I1, r1, q1⟩ => PyProof.Rows.args_nil ?_) na) na rfl
  obtain ⟨l, ns, rfl, hq, h1, q1⟩ := q1
  cases r1
  obtain ⟨its, r, pl, hz⟩ := I1.list hq
  refine call_set_lstI ns (I1.ok.hd hc) pl.isList (by simpa using r.ints) (by unfold scanBound; omega) fun h' tk c hS hcl hk => ?_
  have I2 : Inv X pins σ H1 { s1 with heap := h', toks := tk } := I1.kept hk
  refine PyProof.Rows.args_nil ?_
  refine sorted_set (s := { s1 with heap := h', toks := tk }) hS (I1.ok.hd hc) (by omega) fun s' p' out c' ns' k g o hp hgt hI hpw hmem hlen => ?_
  have hn : H1 p' = none := I2.hok.fresh hp
  have hle : (ns'.map V.int).length ≤ sizeLine := by rw [List.length_map, sizeLine_eq]; omega
  have J : Inv X pins σ (upd H1 p' (.lst (ns'.map V.int))) { ({ s1 with heap := h', toks := tk } : Shared) with heap := s'.heap, gens := s'.gens, drawn := s'.drawn, toks := s'.toks } :=
    I2.call (ch := []) (Un.laid k hp hn) (I2.hok.laid k hp ⟨hle, out.toList, c', vals_of_ints hI, hgt⟩) (by rw [g]; exact I2.bare) (fun _ z => nomatch z)
  have e : s' = { ({ s1 with heap := h', toks := tk } : Shared) with heap := s'.heap, gens := s'.gens, drawn := s'.drawn, toks := s'.toks } := by
    cases s'
    cases s1
    cases o
    rfl
  rw [e]
  exact ⟨.ref p', _, J, rfl, q1 ns' p' hpw (fun k => by rw [hmem k, decide_eq_true_eq]) hn⟩
theorem pe_sortSetT (hc : X.calm = true) (hu : X.A.units + 64 < cLine) (hg : Gl X "sorted") (hm : X.mg "sorted" = none) (hg2 : Gl X "set") (hm2 : X.mg "set" = none) (ha : PE X a ta)
    (na : starEach [a] X.env = (false, eval a X.env) :: starEach [] X.env := by rfl) : PE X (.Call (.Name "sorted" p) [.Call (.Name "set" p2) [a] [] q] [] pos) (tSortSetT X.K ta) := by
  refine ⟨fun pins s σ H Q I h => ?_⟩
  refine Call_ (ld_blt I hg hm (by decide +kernel : bootBuiltins "sorted" = some (.builtin "sorted")) ?_)
  refine PyProof.Rows.callWith_builtin1 (PyProof.Rows.args_cons ?_ rfl) rfl rfl
  refine Call_ (ld_blt I hg2 hm2 PyProof.Rows.boot_set ?_)
  refine PyProof.Rows.callWith_type1 (PyProof.Rows.args_cons (thn (ha.run pins s σ H _ I h) fun v s1 ⟨x, H1, I1, r1, q1⟩ => PyProof.Rows.args_nil ?_) na) na rfl
  obtain ⟨l, ks, rfl, hq, hks, h1, q1⟩ := q1
  cases r1
  obtain ⟨its, r, pl, hz⟩ := I1.list hq
  refine call_set_tups (P := X.prog) (w := X.w) ks (I1.ok.hd hc) pl.isList (by simpa using refs_of_vals r) (fun p hp => I1.isT (hks p hp).1) h1 (by omega) fun h' tk L es ep t R g0 hk => ?_
  have I2 : Inv X pins σ H1 { s1 with heap := h', toks := tk } := I1.kept hk
  have hsub : ∀ q ∈ L, q ∈ ks := fun q hq => List.mem_of_mem_take (g0.sub q hq)
  refine PyProof.Rows.args_nil ?_
  refine sorted_setL (s := { s1 with heap := h', toks := tk }) R (I1.ok.hd hc) (fun q hq => (hks q (hsub q hq)).2) fun s' p' out c' L' k g o hp hgt hout pm hpw => ?_
  have hn : H1 p' = none := I2.hok.fresh hp
  have hfew : L'.length < 64 := by rw [pm.length_eq]; exact R.few
  have hle : (L'.map fun q => V.ref q.1).length ≤ sizeLine := by rw [List.length_map, sizeLine_eq]; omega
  have hv : Vals (L'.map fun q => V.ref q.1) out.toList := by rw [hout]; exact vals_of_refs L'
  have J : Inv X pins σ (upd H1 p' (.lst (L'.map fun q => V.ref q.1))) { ({ s1 with heap := h', toks := tk } : Shared) with heap := s'.heap, gens := s'.gens, drawn := s'.drawn, toks := s'.toks } :=
    I2.call (ch := []) (Un.laid k hp hn) (I2.hok.laid k hp ⟨hle, out.toList, c', hv, hgt⟩) (by rw [g]; exact I2.bare) (fun _ z => nomatch z)
  have e : s' = { ({ s1 with heap := h', toks := tk } : Shared) with heap := s'.heap, gens := s'.gens, drawn := s'.drawn, toks := s'.toks } := by
    cases s'
    cases s1
    cases o
    rfl
  rw [e]
  refine ⟨.ref p', _, J, rfl, q1 L' p' (fun q hq => hsub q (pm.mem_iff.mp hq)) (fun q hq => ?_) ((pm.map (·.2)).nodup_iff.mpr R.nd) hpw hn⟩
  have := g0.all q (by rw [List.take_length]; exact hq)
  exact (pm.map (·.2)).mem_iff.mpr this
end
end Sim
end T_SimT

section T_SimU
set_option Elab.async false
set_option linter.all false
set_option maxRecDepth 100000
/-! SimU: sorted(list of tuples), sorted(set(..)), tuple(range): the closures. -/
namespace Sim
open PySem PySem.Spec L2
open PyProof.Rows hiding St

def allT : List Dt → Option (List (List Int))
  | [] => some []
  | .tuple xs :: ds => match allI xs with
    | some ns => match allT ds with
      | some nss => some (ns :: nss)
      | none => none
    | none => none
  | _ :: _ => none
def encL (ns : List Int) : Dt := .tuple (ns.map .int)
theorem allT_map : ∀ nss : List (List Int), allT (nss.map encL) = some nss
  | [] => rfl
  | ns :: nss => by
    rw [List.map_cons]
    unfold encL allT
    rw [show allI (ns.map PyData.int) = some ns from allI_map ns]
    have := allT_map nss
    unfold encL at this
    rw [this]
def dd {α : Type} [DecidableEq α] : List α → List α
  | [] => []
  | x :: xs => if x ∈ xs then dd xs else x :: dd xs
theorem mem_dd {α : Type} [DecidableEq α] {y : α} : ∀ {xs : List α}, y ∈ dd xs ↔ y ∈ xs
  | [] => Iff.rfl
  | x :: xs => by
    unfold dd
    split
    · rename_i h
      rw [mem_dd, List.mem_cons]
      exact ⟨.inr, fun z => z.elim (fun e => e ▸ h) id⟩
    · rw [List.mem_cons, List.mem_cons, mem_dd]
theorem nodup_dd {α : Type} [DecidableEq α] : ∀ xs : List α, (dd xs).Nodup
  | [] => List.nodup_nil
  | x :: xs => by
    unfold dd
    split
    · exact nodup_dd xs
    · rename_i h
      exact List.nodup_cons.mpr ⟨fun z => h (mem_dd.mp z), nodup_dd xs⟩
def tsort (nss : List (List Int)) : List (List Int) := nss.mergeSort fun a b => !lxLt b a
def tset (nss : List (List Int)) : List (List Int) := tsort (dd nss)
def iset (ns : List Int) : List Int := isort (dd ns)
theorem tsort_perm (nss : List (List Int)) : (tsort nss).Perm nss := List.mergeSort_perm _ _
theorem tsort_sorted (nss : List (List Int)) : (tsort nss).Pairwise fun a b => lxLt b a = false := by
  have h := List.pairwise_mergeSort (le := fun a b : List Int => !lxLt b a) (fun a b c h1 h2 => by
    simp only [Bool.not_eq_true'] at *
    cases e : lxLt c a with
    | false => rfl
    | true =>
      cases e2 : lxLt a b with
      | true => rw [lxLt_trans e e2] at h2; cases h2
      | false =>
        rw [lxLt_tri e2 h1] at e
        rw [e] at h2
        cases h2) (fun a b => by
    cases e : lxLt b a with
    | false => simp
    | true =>
      cases e2 : lxLt a b with
      | false => simp
      | true => have := lxLt_trans e e2; rw [lxLt_irr] at this; cases this) nss
  exact h.imp fun h => by simpa using h
theorem lex_unique : ∀ {a b : List (List Int)}, a.Perm b → a.Pairwise (fun x y => lxLt y x = false) → b.Pairwise (fun x y => lxLt y x = false) → a = b
  | [], b, p, _, _ => List.Perm.nil_eq p
  | x :: a, [], p, _, _ => absurd p.length_eq (by simp)
  | x :: a, y :: b, p, ha, hb => by
    have h1 : lxLt x y = false := by
      have : x ∈ y :: b := p.subset List.mem_cons_self
      rcases List.mem_cons.mp this with e | h
      · rw [e, lxLt_irr]
      · exact (List.pairwise_cons.mp hb).1 x h
    have h2 : lxLt y x = false := by
      have : y ∈ x :: a := p.symm.subset List.mem_cons_self
      rcases List.mem_cons.mp this with e | h
      · rw [e, lxLt_irr]
      · exact (List.pairwise_cons.mp ha).1 y h
    have e := lxLt_tri h1 h2
    subst e
    rw [lex_unique (List.perm_cons _ |>.mp p) (List.pairwise_cons.mp ha).2 (List.pairwise_cons.mp hb).2]
theorem iset_of {ns ns' : List Int} (h1 : ns'.Pairwise (· < ·)) (h2 : ∀ k, k ∈ ns' ↔ k ∈ ns) : ns' = iset ns := by
  refine sorted_unique (((List.perm_ext_iff_of_nodup (h1.imp fun h => by omega) (nodup_dd ns)).mpr fun k => by rw [h2, mem_dd]).trans (isort_perm _).symm) (h1.imp fun h => by omega) (isort_sorted _)
theorem tset_of {nss nss' : List (List Int)} (h0 : nss'.Nodup) (h1 : nss'.Pairwise fun a b => lxLt b a = false) (h2 : ∀ k, k ∈ nss' ↔ k ∈ nss) : nss' = tset nss :=
  lex_unique (((List.perm_ext_iff_of_nodup h0 (nodup_dd nss)).mpr fun k => by rw [h2, mem_dd]).trans (tsort_perm _).symm) h1 (tsort_sorted _)

section
variable {K : PySem.W.Frag} {W : Wt} {Δ : List Kd}
theorem rpA_tups {F : Addr → Prop} {H : Hp} : ∀ {xs : List V} {ds : List Dt} {nss : List (List Int)}, RpA K F H xs ds → allT ds = some nss → ∃ ts : List (Addr × List Int), xs = ts.map (fun p => V.ref p.1) ∧ ts.map (·.2) = nss ∧ ∀ p ∈ ts, SqT K H p.1 (p.2.map V.int)
  | _, _, _, .nil, e => by cases e; exact ⟨[], rfl, rfl, fun p hp => nomatch hp⟩
  | _, _, nss, .cons (d := d) (ds := ds) h r, e => by
    cases h with
    | @tup a ys es hs hr =>
      unfold allT at e
      cases ei : allI es with
      | none => rw [ei] at e; cases e
      | some ns =>
        rw [ei] at e
        cases et : allT ds with
        | none => rw [et] at e; cases e
        | some ms =>
          rw [et] at e
          cases e
          obtain ⟨ts, e1, e2, e3⟩ := rpA_tups r et
          refine ⟨(a, ns) :: ts, by rw [List.map_cons, e1], by rw [List.map_cons, e2], fun p hp => ?_⟩
          rcases List.mem_cons.mp hp with z | z
          · rw [z]
            rw [rp_ints hr ei] at hs
            exact hs
          · exact e3 p z
    | _ => cases e
theorem rpA_of_tups {F : Addr → Prop} {H : Hp} : ∀ ts : List (Addr × List Int), (∀ p ∈ ts, SqT K H p.1 (p.2.map V.int)) → RpA K F H (ts.map fun p => V.ref p.1) ((ts.map (·.2)).map encL)
  | [], _ => .nil
  | p :: ts, h => .cons (.tup (h p List.mem_cons_self) (rpA_ints _)) (rpA_of_tups ts fun q hq => h q (List.mem_cons_of_mem _ hq))
/-- none is empty, fewer than 64 -/
def okT0 (nss : List (List Int)) : Bool := nss.all (fun ns => !ns.isEmpty) && decide (nss.length < 64)
def hSortT : Dt → O Dt := fun d => match d with
  | .list xs => match allT xs with
    | some nss => if okT0 nss = true then .ok (.list ((tsort nss).map encL)) else .bad
    | none => .bad
  | _ => .bad
def hSortSetT : Dt → O Dt := fun d => match d with
  | .list xs => match allT xs with
    | some nss => if okT0 nss = true then .ok (.list ((tset nss).map encL)) else .bad
    | none => .bad
  | _ => .bad
def hSortSetI : Dt → O Dt := fun d => match d with
  | .list xs => match allI xs with
    | some ns => if ns.length < 64 then .ok (.list ((iset ns).map .int)) else .bad
    | none => .bad
  | _ => .bad
theorem okT0_ne {nss : List (List Int)} (h : okT0 nss = true) : (∀ ns ∈ nss, ns ≠ []) ∧ nss.length < 64 := by
  unfold okT0 at h
  rw [Bool.and_eq_true, List.all_eq_true, decide_eq_true_eq] at h
  exact ⟨fun ns hn e => by have := h.1 ns hn; rw [e] at this; simp at this, h.2⟩
theorem se_sortT {tA : TA} {gA : List Dt → O (List Dt)} {av fr : Bool} (ha : SA K W Δ tA av fr gA) : SE K W Δ (tCB (rSortL K) tA) (.new .l true) (gCB (one hSortT) gA) := fun f ρ σ H Q R q => by
  refine ha f ρ σ H _ R ?_
  unfold gCB at q
  cases e1 : gA ρ with
  | bad => rw [e1] at q; exact q
  | ex z => rw [e1] at q; exact q
  | ok ds =>
    rw [e1, bnd_ok] at q
    intro vs H1 s1 x1
    rcases one_eq (h := hSortT) (ds := ds) with ⟨d, rfl, e⟩ | e
    · rw [e] at q
      cases x1 with
      | cons x1 xr =>
        cases xr
        cases d with
        | list es =>
          unfold hSortT at q
          simp only at q
          cases ea : allT es with
          | none => rw [ea] at q; exact q.elim
          | some nss =>
            rw [ea] at q
            simp only at q
            by_cases hk : okT0 nss = true
            · rw [if_pos hk] at q
              obtain ⟨a, xs, rfl, hs, r⟩ := x1.sql
              obtain ⟨ts, rfl, rfl, h3⟩ := rpA_tups r ea
              obtain ⟨k1, k2⟩ := okT0_ne hk
              rw [List.length_map] at k2
              refine ⟨a, ts, rfl, hs, k2, fun p hp => ⟨h3 p hp, k1 _ (List.mem_map.mpr ⟨p, hp, rfl⟩)⟩, fun L' l pL pw nl => ?_⟩
              have e2 : tsort (ts.map (·.2)) = L'.map (·.2) := lex_unique ((tsort_perm _).trans (pL.map (·.2)).symm) (tsort_sorted _) (List.pairwise_map.mpr pw)
              rw [e2] at q
              exact q l _ (s1.free nl) (s1.trans (same_upd nl)) ⟨_, _, rfl, upd_same, rpA_of_tups L' fun p hp => sqt_same (same_upd nl) (h3 p (pL.mem_iff.mp hp))⟩
            · rw [if_neg hk] at q
              exact q.elim
        | _ => exact q.elim
    · rw [e] at q
      exact q.elim
theorem se_sortSetI {te : TE} {g : Gd} {av fr : Bool} (ha : SE K W Δ te (.v av fr) g) : SE K W Δ (tSortSetI K te) (.new .l true) (gUn hSortSetI g) := fun f ρ σ H Q R q => by
  refine ha f ρ σ H _ R ?_
  unfold gUn at q
  cases e1 : g ρ with
  | bad => rw [e1] at q; exact q
  | ex z => rw [e1] at q; exact q
  | ok d =>
    rw [e1, bnd_ok] at q
    intro v H1 s1 x1
    cases d with
    | list es =>
      unfold hSortSetI at q
      simp only at q
      cases ea : allI es with
      | none => rw [ea] at q; exact q.elim
      | some ns =>
        rw [ea] at q
        simp only at q
        by_cases hl : ns.length < 64
        · rw [if_pos hl] at q
          obtain ⟨c, xs, rfl, hs, r⟩ := x1.sql
          rw [rp_ints r ea] at hs
          refine ⟨c, ns, rfl, hs, hl, fun ns' p h1 h2 np => ?_⟩
          rw [← iset_of h1 h2] at q
          exact q p _ (s1.free np) (s1.trans (same_upd np)) ⟨_, _, rfl, upd_same, rpA_ints _⟩
        · rw [if_neg hl] at q
          exact q.elim
    | _ => exact q.elim
theorem se_sortSetT {te : TE} {g : Gd} {av fr : Bool} (ha : SE K W Δ te (.v av fr) g) : SE K W Δ (tSortSetT K te) (.new .l true) (gUn hSortSetT g) := fun f ρ σ H Q R q => by
  refine ha f ρ σ H _ R ?_
  unfold gUn at q
  cases e1 : g ρ with
  | bad => rw [e1] at q; exact q
  | ex z => rw [e1] at q; exact q
  | ok d =>
    rw [e1, bnd_ok] at q
    intro v H1 s1 x1
    cases d with
    | list es =>
      unfold hSortSetT at q
      simp only at q
      cases ea : allT es with
      | none => rw [ea] at q; exact q.elim
      | some nss =>
        rw [ea] at q
        simp only at q
        by_cases hk : okT0 nss = true
        · rw [if_pos hk] at q
          obtain ⟨c, xs, rfl, hs, r⟩ := x1.sql
          obtain ⟨ts, rfl, rfl, h3⟩ := rpA_tups r ea
          obtain ⟨k1, k2⟩ := okT0_ne hk
          rw [List.length_map] at k2
          refine ⟨c, ts, rfl, hs, fun p hp => ⟨h3 p hp, k1 _ (List.mem_map.mpr ⟨p, hp, rfl⟩)⟩, k2, fun L p h1 h2 h4 h5 np => ?_⟩
          have e2 : L.map (·.2) = tset (ts.map (·.2)) := tset_of h4 (List.pairwise_map.mpr h5) fun k => ⟨fun hk => by
            obtain ⟨y, hy, e⟩ := List.mem_map.mp hk
            exact List.mem_map.mpr ⟨y, h1 y hy, e⟩, fun hk => by
            obtain ⟨y, hy, e⟩ := List.mem_map.mp hk
            rw [← e]
            exact h2 y hy⟩
          rw [← e2] at q
          exact q p _ (s1.free np) (s1.trans (same_upd np)) ⟨_, _, rfl, upd_same, rpA_of_tups L fun y hy => sqt_same (same_upd np) (h3 y (h1 y hy))⟩
        · rw [if_neg hk] at q
          exact q.elim
    | _ => exact q.elim
/-- tuple(range) -/
def gTpI (gI : List Dt → O (List Dt)) : Gd := fun ρ => bnd (gI ρ) fun ds => if ds.length ≤ 100000 then .ok (.tuple ds) else .bad
theorem se_trng1 {te : TE} {g : Gd} {av fr : Bool} (ha : SE K W Δ te (.v av fr) g) : SE K W Δ (tTupRg (tRg1 te)) (.v true true) (gTpI (gRng1 (gCons g gNil))) := fun f ρ σ H Q R q => by
  refine ha f ρ σ H _ R ?_
  unfold gTpI gRng1 gCons gNil at q
  cases e1 : g ρ with
  | bad => rw [e1] at q; exact q
  | ex z => rw [e1] at q; exact q
  | ok d =>
    rw [e1, bnd_ok, bnd_ok, bnd_ok] at q
    intro v H1 s1 x1
    cases er : rng1 [d] with
    | none => rw [er] at q; exact q.elim
    | some p =>
      rw [er] at q
      unfold rng1 at er
      split at er
      · split at er
        · rename_i hj
          obtain ⟨e, e'⟩ := List.cons.inj ‹[d] = _›
          rename_i j h2
          cases er
          subst e
          rw [rpInt x1]
          simp only [bnd_ok] at q
          by_cases l : (rangeD 0 j).length ≤ 100000
          · rw [if_pos l] at q
            rw [rangeD_len] at l
            refine ⟨j, rfl, ⟨by omega, by omega, hj.1, hj.2, by omega⟩, fun p np => q (.ref p) _ (s1.trans (same_upd np)) (.tup (.inl (.inl upd_same)) ?_)⟩
            exact rpA_mapInt _ _
          · rw [if_neg l] at q
            exact q.elim
        · cases er
      · cases er
variable {X : Cx} {a e : Expr} {es : List Expr} {te : TE} {tA : TA} {g : Gd} {gA : List Dt → O (List Dt)} {av fr : Bool} {p p2 q pos : Pos}
theorem x_sortT {x : Str} (hm : X.mg x = none) (h : AD X K W Δ (e :: es) tA av fr gA) (hv : bootBuiltins x = some (.builtin "sorted") := by decide +kernel) (hg : Gl X x := by rfl) (hn : x ≠ "__name__" := by decide) (hdb : (x == ("__debug__" : Str)) = false := by decide)
    (he : starEach (e :: es) X.env = (false, eval e X.env) :: starEach es X.env := by rfl) (hpl : (backTo pos (starEach es X.env)).any (·.1) = false := by rfl) :
    PD X K W Δ (.Call (.Name x p) (e :: es) [] pos) (tCB (rSortL K) tA) (.new .l true) (gCB (one hSortT) gA) :=
  ⟨pe_callB (by have q := cr_sortL (X := X); rw [h.hK] at q; exact q) hg hm hv h.pa hn hdb he hpl, h.hK, se_sortT h.sa⟩
theorem x_sortSetI (hm : X.mg "sorted" = none) (hm2 : X.mg "set" = none) (h : PD X K W Δ a te (.v av fr) g) (hc : X.calm = true := by rfl) (hg : Gl X "sorted" := by rfl) (hg2 : Gl X "set" := by rfl) (na : starEach [a] X.env = (false, eval a X.env) :: starEach [] X.env := by rfl) :
    PD X K W Δ (.Call (.Name "sorted" p) [.Call (.Name "set" p2) [a] [] q] [] pos) (tSortSetI K te) (.new .l true) (gUn hSortSetI g) := ⟨by have w := pe_sortSetI (X := X) (p := p) (p2 := p2) (q := q) (pos := pos) hc hg hm hg2 hm2 h.pe na; rw [h.hK] at w; exact w, h.hK, se_sortSetI h.se⟩
theorem x_sortSetT {kk : Nat} (hr : Room kk X.A) (hm : X.mg "sorted" = none) (hm2 : X.mg "set" = none) (h : PD X K W Δ a te (.v av fr) g) (hc : X.calm = true := by rfl) (hg : Gl X "sorted" := by rfl) (hg2 : Gl X "set" := by rfl) (na : starEach [a] X.env = (false, eval a X.env) :: starEach [] X.env := by rfl) :
    PD X K W Δ (.Call (.Name "sorted" p) [.Call (.Name "set" p2) [a] [] q] [] pos) (tSortSetT K te) (.new .l true) (gUn hSortSetT g) := ⟨by have w := pe_sortSetT (X := X) (p := p) (p2 := p2) (q := q) (pos := pos) hc hr.units hg hm hg2 hm2 h.pe na; rw [h.hK] at w; exact w, h.hK, se_sortSetT h.se⟩
theorem x_trng1 {pos2 : Pos} (hm : X.mg "tuple" = none) (hm2 : X.mg "range" = none) (h : PD X K W Δ a te (.v av fr) g) (hc : X.calm = true := by rfl) (hg : Gl X "tuple" := by rfl) (hg2 : Gl X "range" := by rfl)
    (na : starEach [a] X.env = (false, eval a X.env) :: starEach [] X.env := by rfl) (na2 : starEach [.Call (.Name "range" p2) [a] [] pos2] X.env = (false, eval (.Call (.Name "range" p2) [a] [] pos2) X.env) :: starEach [] X.env := by rfl) :
    PD X K W Δ (.Call (.Name "tuple" p) [.Call (.Name "range" p2) [a] [] pos2] [] pos) (tTupRg (tRg1 te)) (.v true true) (gTpI (gRng1 (gCons g gNil))) := ⟨pe_tupRg hc hg hm (prg_1 hg2 hm2 h.pe na) na2, h.hK, se_trng1 h.se⟩
end
end Sim
end T_SimU

section T_SimV
set_option Elab.async false
set_option linter.all false
set_option maxRecDepth 100000
/-! SimV: {k: v}, d.get(k), is None, tuple + tuple, sorted(set(tuple of ints)). -/
namespace Sim
open PySem PySem.Spec L2
open PyProof.Rows hiding St

/-- {k: v} -/
def gDNew1 (gk gv : Gd) : Gd := fun ρ => bnd (gk ρ) fun kd => match keyOf kd with
  | some k => bnd (gv ρ) fun v => .ok (.dict [(keyD k, v)])
  | none => .bad
/-- d.get(k) -/
def gDGetN (i : Nat) (gk : Gd) : Gd := fun ρ => match dAt ρ i with
  | some es => bnd (gk ρ) fun kd => (match keyOf kd with
    | some k => .ok ((dGet es k).getD .none)
    | none => .bad)
  | none => .bad
section
variable {K : PySem.W.Frag} {W : Wt} {Δ : List Kd} {tk tv ti ta tb : TE} {gk gv ga gb g : Gd} {fr fr' av : Bool} {i : Nat}
theorem se_dnew1 (hk : SE K W Δ tk (.v av fr') gk) (hv : SE K W Δ tv (.v true fr) gv) : SE K W Δ (tDisp [(tk, tv)]) (.new .dk fr) (gDNew1 gk gv) := fun f ρ σ H Q R q => by
  intro p np
  have s0 : Same H (upd H p (.dK [])) := same_upd np
  refine hk f ρ σ _ _ (R.mono s0) ?_
  unfold gDNew1 at q
  cases e1 : gk ρ with
  | bad => rw [e1] at q; exact q
  | ex z => rw [e1] at q; exact fun H' s => q H' (s0.trans s)
  | ok kd =>
    rw [e1, bnd_ok] at q
    intro kv H1 s1 xk
    refine hv { f with P := p :: f.P } ρ σ H1 _ ((R.addP (o := .dK []) np trivial).mono s1) ?_
    cases ek : keyOf kd with
    | none => rw [ek] at q; exact q.elim
    | some k =>
      rw [ek] at q
      dsimp only at q
      cases e2 : gv ρ with
      | bad => rw [e2] at q; exact q
      | ex z => rw [e2] at q; exact fun H' s => q H' ((s0.trans s1).trans s)
      | ok d =>
        rw [e2, bnd_ok] at q
        intro v H2 s2 x2
        have s12 := s1.trans s2
        have hp : H2 p = some (.dK []) := s12 _ _ upd_same
        have sf : Same H (upd H2 p (.dK [(k, v)])) := fun b o e => by
          rw [upd_ne (ne_of_none e np)]
          exact (s0.trans s12) b o e
        refine ⟨hp, [(k, v)], by rw [kV_keyOf xk ek]; rfl, by show 1 ≤ 15; omega, ?_⟩
        have em : mergeK [] [(k, v)] = [(k, v)] := rfl
        rw [em]
        refine q p _ np sf ⟨_, _, rfl, upd_same, .cons ?_ .nil⟩
        exact Rp.updM hp trivial (fun a fa => fa.2) (x2.weak fun a fa => ⟨⟨fun e => ⟨(fa.1 e).1, fun z => (fa.1 e).2 (List.mem_cons_of_mem _ z)⟩, fa.2⟩, fun z => (fa.1 rfl).2 (z ▸ List.mem_cons_self)⟩)
theorem se_dgetN (hk : Δ[i]? = some (.own .dk fr)) (h : SE K W Δ ti (.v av fr') gk) : SE K W Δ (tDGet1 (tVar i) ti) (.v true fr) (gDGetN i gk) := fun f ρ σ H Q r q => by
  unfold gDGetN at q
  cases ed : dAt ρ i with
  | none => rw [ed] at q; exact q.elim
  | some es =>
    rw [ed] at q
    obtain ⟨p, kvs, g1, g3, g4, g5⟩ := dk_own r hk ed
    refine ⟨_, g1, p, rfl, .inl ⟨kvs, .inl g4⟩, h f ρ σ H _ r ?_⟩
    simp only at q
    cases e2 : gk ρ with
    | bad => rw [e2] at q; exact q
    | ex z => rw [e2] at q; exact q
    | ok kd =>
      rw [e2, bnd_ok] at q
      intro kv H1 s1 xk
      cases ek : keyOf kd with
      | none => rw [ek] at q; exact q.elim
      | some k =>
        rw [ek] at q
        simp only at q
        rw [kV_keyOf xk ek]
        refine ⟨valV kvs k, DGet.k (s1 _ _ g4), ?_⟩
        rcases g5.get k with ⟨e1, e⟩ | ⟨v, d, e1, e, x⟩
        · rw [e1]
          rw [e] at q
          exact q .non H1 s1 .non
        · rw [e1]
          rw [e] at q
          exact q v H1 s1 (x.same s1)
/-- tuple + tuple -/
def hCatT : Dt → Dt → O Dt := fun d e => match d, e with
  | .tuple xs, .tuple ys => if xs.length + ys.length ≤ 100000 then .ok (.tuple (xs ++ ys)) else .bad
  | _, _ => .bad
theorem se_catT (ha : SE K W Δ ta (.v av fr) ga) (hb : SE K W Δ tb (.v av fr) gb) : SE K W Δ (tOp (rCatA K) ta tb) (.v av fr) (gOp hCatT ga gb) := fun f ρ σ H Q R q => by
  refine ha f ρ σ H _ R ?_
  unfold gOp at q
  cases e1 : ga ρ with
  | bad => rw [e1] at q; exact q
  | ex z => rw [e1] at q; exact q
  | ok d =>
    rw [e1, bnd_ok] at q
    intro v H1 s1 x1
    refine hb f ρ σ H1 _ (R.mono s1) ?_
    cases e2 : gb ρ with
    | bad => rw [e2] at q; exact q
    | ex z => rw [e2] at q; exact fun H' s => q H' (s1.trans s)
    | ok d2 =>
      rw [e2, bnd_ok] at q
      intro v2 H2 s2 x2
      have s12 := s1.trans s2
      unfold hCatT at q
      split at q
      · split at q
        · rename_i hz
          obtain ⟨a, xs, rfl, hs, r⟩ := (x1.same s2).sqt
          obtain ⟨b, ys, rfl, hs2, r2⟩ := x2.sqt
          refine ⟨a, b, xs, ys, rfl, rfl, hs, hs2, sz_le (by rw [r.length, r2.length]; exact hz), fun e => ?_, fun _ e => ?_, fun _ _ p np => ?_⟩
          · subst e
            cases r
            exact q _ H2 s12 (.tup hs2 r2)
          · subst e
            cases r2
            refine q _ H2 s12 (.tup hs ?_)
            rw [List.append_nil]
            exact r
          · exact q _ _ (s12.trans (same_upd np)) (.tup (.inl (.inl upd_same)) ((r.append r2).same (same_upd np)))
        · exact q.elim
      · exact q.elim
end
/-- sorted(set(t)), t a tuple of ints -/
def tSortSetU (K : PySem.W.Frag) (te : TE) : TE := fun σ H Q => te σ H fun x H1 => ∃ (l : Addr) (ns : List Int), x = V.ref l ∧ SqT K H1 l (ns.map V.int) ∧ ns.length < 64 ∧
  ∀ (ns' : List Int) (p : Addr), ns'.Pairwise (· < ·) → (∀ k, k ∈ ns' ↔ k ∈ ns) → H1 p = none → Q (.ref p) (upd H1 p (.lst (ns'.map V.int)))
def hSortSetU : Dt → O Dt := fun d => match d with
  | .tuple xs => match allI xs with
    | some ns => if ns.length < 64 then .ok (.list ((iset ns).map .int)) else .bad
    | none => .bad
  | _ => .bad
section
variable {X : Cx} {a : Expr} {ta te : TE} {p p2 q pos : Pos}
theorem pe_sortSetU (hc : X.calm = true) (hg : Gl X "sorted") (hm : X.mg "sorted" = none) (hg2 : Gl X "set") (hm2 : X.mg "set" = none) (ha : PE X a ta)
    (na : starEach [a] X.env = (false, eval a X.env) :: starEach [] X.env := by rfl) : PE X (.Call (.Name "sorted" p) [.Call (.Name "set" p2) [a] [] q] [] pos) (tSortSetU X.K ta) := by
  refine ⟨fun pins s σ H Q I h => ?_⟩
  refine Call_ (ld_blt I hg hm (by decide +kernel : bootBuiltins "sorted" = some (.builtin "sorted")) ?_)
  refine PyProof.Rows.callWith_builtin1 (PyProof.Rows.args_cons ?_ rfl) rfl rfl
  refine Call_ (ld_blt I hg2 hm2 PyProof.Rows.boot_set ?_)
  refine PyProof.Rows.callWith_type1 (PyProof.Rows.args_cons (thn (ha.run pins s σ H _ I h) fun v s1 ⟨x, H1, I1, r1, q1⟩ => PyProof.Rows.args_nil ?_) na) na rfl
  obtain ⟨l, ns, rfl, hq, h1, q1⟩ := q1
  cases r1
  obtain ⟨its, r, pl, hz⟩ := I1.tuple hq
  refine call_set_tupI ns (I1.ok.hd hc) pl (by simpa using r.ints) (by unfold scanBound; omega) fun h' tk c hS hcl hk => ?_
  have I2 : Inv X pins σ H1 { s1 with heap := h', toks := tk } := I1.kept hk
  refine PyProof.Rows.args_nil ?_
  refine sorted_set (s := { s1 with heap := h', toks := tk }) hS (I1.ok.hd hc) (by omega) fun s' p' out c' ns' k g o hp hgt hI hpw hmem hlen => ?_
  have hn : H1 p' = none := I2.hok.fresh hp
  have hle : (ns'.map V.int).length ≤ sizeLine := by rw [List.length_map, sizeLine_eq]; omega
  have J : Inv X pins σ (upd H1 p' (.lst (ns'.map V.int))) { ({ s1 with heap := h', toks := tk } : Shared) with heap := s'.heap, gens := s'.gens, drawn := s'.drawn, toks := s'.toks } :=
    I2.call (ch := []) (Un.laid k hp hn) (I2.hok.laid k hp ⟨hle, out.toList, c', vals_of_ints hI, hgt⟩) (by rw [g]; exact I2.bare) (fun _ z => nomatch z)
  have e : s' = { ({ s1 with heap := h', toks := tk } : Shared) with heap := s'.heap, gens := s'.gens, drawn := s'.drawn, toks := s'.toks } := by
    cases s'
    cases s1
    cases o
    rfl
  rw [e]
  exact ⟨.ref p', _, J, rfl, q1 ns' p' hpw (fun k => by rw [hmem k, decide_eq_true_eq]) hn⟩
end
section
variable {X : Cx} {K : PySem.W.Frag} {W : Wt} {Δ : List Kd} {a b e : Expr} {te ti tk tv ta tb : TE} {g gk gv ga gb : Gd} {fr fr' av : Bool} {pos p p2 q apos cpos : Pos} {x : Str} {m : Nat}
theorem se_sortSetU (ha : SE K W Δ te (.v av fr) g) : SE K W Δ (tSortSetU K te) (.new .l true) (gUn hSortSetU g) := fun f ρ σ H Q R q => by
  refine ha f ρ σ H _ R ?_
  unfold gUn at q
  cases e1 : g ρ with
  | bad => rw [e1] at q; exact q
  | ex z => rw [e1] at q; exact q
  | ok d =>
    rw [e1, bnd_ok] at q
    intro v H1 s1 x1
    cases d with
    | tuple es =>
      unfold hSortSetU at q
      simp only at q
      cases ea : allI es with
      | none => rw [ea] at q; exact q.elim
      | some ns =>
        rw [ea] at q
        simp only at q
        by_cases hl : ns.length < 64
        · rw [if_pos hl] at q
          obtain ⟨c, xs, rfl, hs, r⟩ := x1.sqt
          rw [rp_ints r ea] at hs
          refine ⟨c, ns, rfl, hs, hl, fun ns' p h1 h2 np => ?_⟩
          rw [← iset_of h1 h2] at q
          exact q p _ (s1.free np) (s1.trans (same_upd np)) ⟨_, _, rfl, upd_same, rpA_ints _⟩
        · rw [if_neg hl] at q
          exact q.elim
    | _ => exact q.elim
theorem x_sortSetU (hm : X.mg "sorted" = none) (hm2 : X.mg "set" = none) (h : PD X K W Δ a te (.v av fr) g) (hc : X.calm = true := by rfl) (hg : Gl X "sorted" := by rfl) (hg2 : Gl X "set" := by rfl) (na : starEach [a] X.env = (false, eval a X.env) :: starEach [] X.env := by rfl) :
    PD X K W Δ (.Call (.Name "sorted" p) [.Call (.Name "set" p2) [a] [] q] [] pos) (tSortSetU K te) (.new .l true) (gUn hSortSetU g) := ⟨by have w := pe_sortSetU (X := X) (p := p) (p2 := p2) (q := q) (pos := pos) hc hg hm hg2 hm2 h.pe na; rw [h.hK] at w; exact w, h.hK, se_sortSetU h.se⟩
theorem x_dnew1 (hk : PD X K W Δ a tk (.v av fr') gk) (hv : PD X K W Δ b tv (.v true fr) gv) : PD X K W Δ (.Dict [some a] [b] pos) (tDisp [(tk, tv)]) (.new .dk fr) (gDNew1 gk gv) :=
  ⟨pe_disp (pps_cons hk.pe hv.pe pps_nil) rfl rfl (fun h => nomatch h) (by show 1 ≤ 15; omega), hk.hK, se_dnew1 hk.se hv.se⟩
theorem x_dgetN (i : Nat) (hr : Room m X.A) (h : PD X K W Δ e te (.v av fr') g) (hk : Δ[i]? = some (.own .dk fr) := by rfl) (hv : Vis X.env.scope x := by first | exact Or.inl rfl | exact Or.inr (Or.inl rfl) | exact Or.inr (Or.inr rfl)) (hN : X.N[i]? = some x := by rfl) (hd : (x == ("__debug__" : Str)) = false := by decide) (hcd : (x == ("__classdict__" : Str)) = false := by decide)
    (m1 : attributeBase (.Name x p) "get" X.env (eval (.Name x p) X.env) = eval (.Name x p) X.env := by rfl)
    (m2 : ((backTo cpos (starEach [e] X.env)).all (fun x => !x.1) && (backToKw cpos (keywordEach [] X.env)).all (fun x => x.1.isSome) && decide (([e] : List Expr).length + ([] : List Keyword).length + (if ([] : List Keyword).isEmpty then 0 else 1) < 30)) = true := by rfl)
    (m3 : (apos.endLine == cpos.line) = true := by rfl) (m4 : backTo cpos (starEach [e] X.env) = [(false, eval e X.env)] := by rfl) :
    PD X K W Δ (.Call (.Attribute (.Name x p) "get" apos) [e] [] cpos) (tDGet1 (tVar i) te) (.v true fr) (gDGetN i g) := ⟨pe_dget1 (by have := hr.un; omega) (pe_var hN hv hd hcd) h.pe ⟨m1, m2, m3, m4⟩, h.hK, se_dgetN hk h.se⟩
theorem x_catT (ha : PD X K W Δ a ta (.v av fr) ga) (hb : PD X K W Δ b tb (.v av fr) gb) : PD X K W Δ (.BinOp a .Add b pos) (tOp (rCatA K) ta tb) (.v av fr) (gOp hCatT ga gb) :=
  ⟨pe_op (by have q := op_catA (X := X); rw [ha.hK] at q; exact q) ha.pe hb.pe, ha.hK, se_catT ha.se hb.se⟩
end
end Sim
end T_SimV

section T_SimX
set_option Elab.async false
set_option linter.all false
set_option maxRecDepth 100000
/-! SimX: refusals: raise, calls that may raise, try .. except X as n, isinstance of what was caught. -/
namespace Sim
open PySem PySem.Spec L2
open PyProof.Rows hiding St

/-! ### a caught exception, tracked -/
theorem exH_ok {P : Program} {w : World} {H : Hp} {h : Heap} {a : Addr} {cls : Value} {d : Option Addr} {oe : Obj} {vs : Array Value} (e : h.get? a = some oe) (z : Zc cls d oe) (dd : oe.data = .fields vs) : ObjOk P w H h a (ExH cls d a) :=
  ⟨⟨oe, vs, e, z, dd⟩, ⟨oe, e⟩, fun _ _ ⟨o, v, q, r⟩ k => ⟨o, v, k o q, r⟩⟩
section
variable {X : Cx} {pins : List (Addr × Obj)} {σ : L2.St} {H : Hp} {s : Shared}
theorem inv_note {a : Addr} {oe : Obj} {vs : Array Value} {cls : Value} {d : Option Addr} (I : Inv X pins σ H s) (he : s.heap.get? a = some oe) (hz : Zc cls d oe) (hd : oe.data = .fields vs) (na : H a = none)
    (n0 : X.s_0.heap.get? a = none) (nL : a ≠ X.env.locals) (np : ∀ p ∈ X.pn ++ pins, p.1 ≠ a) : Inv X pins σ (upd H a (ExH cls d a)) s := by
  refine ⟨I.ok, I.os, I.bare, ⟨I.base.keep, I.base.slot, fun b o e n hx => ?_, I.base.there, fun b xs e => ?_, fun b o u e => ?_, fun b ps e => ?_⟩, I.loc, I.cell, ?_, fun x c e => ?_, fun p hp => ?_, I.hok.laidN (fun _ _ q => q) na (exH_ok he hz hd), I.len⟩
  · rw [upd_ne (fun z => by rw [z, n0] at e; cases e)]
    exact I.base.free b o e n hx
  · have q := I.base.tups b xs e
    rw [upd_ne (ne_of_none q na)]
    exact q
  · have q := I.base.frzs b o u e
    rw [upd_ne (ne_of_none q na)]
    exact q
  · obtain ⟨m, q⟩ := I.base.tbls b ps e
    exact ⟨m, by rw [upd_ne (ne_of_none q na)]; exact q⟩
  · rw [upd_ne (Ne.symm nL)]
    exact I.free
  · rw [upd_ne ?_]
    · exact I.freeC x c e
    · intro z
      obtain ⟨v, o, ho, hdd⟩ := I.cell x c e
      rw [z, he] at ho
      cases ho
      rw [hd] at hdd
      cases hdd
  · obtain ⟨e, n, ne, nf, d⟩ := I.pin p hp
    exact ⟨e, by rw [upd_ne (np p hp)]; exact n, ne, nf, d⟩
theorem inv_suite (I : Inv X pins σ H s) (a : Addr) : Inv (X.suite a (X.pn ++ pins)) [] σ H s :=
  ⟨I.ok.suite _ _, I.os, I.bare, I.base, I.loc, I.cell, I.free, I.freeC, fun p hp => I.pin p (by rw [List.append_nil] at hp; exact hp), I.hok, I.len⟩
theorem inv_unsuite {a : Addr} {pn' : List (Addr × Obj)} (I : Inv (X.suite a (X.pn ++ pins)) pn' σ H s) (ok : X.Ok) : Inv X pins σ H s :=
  ⟨ok, I.os, I.bare, I.base, I.loc, I.cell, I.free, I.freeC, fun p hp => I.pin p (List.mem_append_left _ hp), I.hok, I.len⟩
end

/-- slot i is forgotten at an end -/
def goneE (i : Nat) (D : Ends) : Ends := { nx := fun σ H => D.nx (σ.set i none) H, rt := D.rt, bk := fun σ H => D.bk (σ.set i none) H, ct := fun σ H => D.ct (σ.set i none) H }
/-- what 'except c as n' wishes of an exception of the body; slot i is n's -/
def wX (K : PySem.W.Frag) (c : Value) (i : Nat) (ts : TS) (Wout : WX) (D : Ends) : WX := fun cls d σ H =>
  ∃ b, PySem.W.exmOne K cls c = some b ∧ (b = true → ∀ a, H a = none → ts (goneE i D) (σ.set i (some (.ref a))) (upd H a (ExH cls d a))) ∧ (b = false → Wout cls d σ H)
section
variable {X : Cx} {x n : Str} {c : Value} {i : Nat} {body suite : List Stmt} {b₀ : Stmt} {np pos pos' : Pos} {tb : WX → TS} {ts : TS} {Wout : WX}
theorem ps_tryX (hs : X.stack = X.env :: X.outer) (hf : X.env.frame = some X.env.locals) (hex : X.ex = []) (hN : X.N.Nodup) (hi : X.N[i]? = some n) (hln : X.env.kindOf n = some .local) (hc : Names X x c) (tk : Takes X Wout)
    (hb : ∀ (W : WX) (pn : List (Addr × Obj)) (xe : Value → Shared → Prop), Takes (X.tr pn xe) W → PSs (X.tr pn xe) body (tb W))
    (hsu : ∀ (a : Addr) (pn : List (Addr × Obj)), PSs (X.suite a pn) (b₀ :: suite) ts) :
    PS X (.Try body [.ExceptHandler (some (.Name x np)) (some n) (b₀ :: suite) pos'] [] [] pos) (fun D σ H => tb (wX X.K c i ts Wout D) D σ H) := by
  refine ⟨fun pins s σ H D I h => wpAny_Try_except ?_⟩
  have ok := I.ok
  have hfr : X.A.frames = some (X.env :: X.outer) := by rw [ok.frames, hs]
  have caught : Takes (X.tr (X.pn ++ pins) (fun e s₁ => wpAny (model X.prog X.w) X.A (noteFrame e X.env) (fun _ s₂ => wpAny (model X.prog X.w) X.A (setFlight e none) (fun _ s₃ =>
      wpAny (model X.prog X.w) X.A (handleBy e X.env [.ExceptHandler (some (.Name x np)) (some n) (b₀ :: suite) pos']) (SP X pins D) X.xe s₃) X.xe s₂) X.xe s₁)) (wX X.K c i ts Wout D) := by
    rintro u s' ⟨a, B, sI, pins', σ', H', cls, d, rfl, J', nb, up, sky, na, os, ag, b, hb1, hyes, hno⟩
    have J : Inv X pins σ' H' sI := J'.ofTry ok
    have sky' : Sky B (X.env :: X.outer) a (Zc cls d) X.env.locals s'.heap := by rw [← hs]; exact sky
    show wpAny _ X.A (noteFrame (.ref a) X.env) _ _ _
    refine Sky.land Zc.steady hfr hf sky' fun h3 fl3 up3 => ?_
    have J3 : Inv X pins σ' H' { s' with heap := h3 } := J.landed nb fl3.1 (up.trans up3) os ag
    obtain ⟨oe3, vs3, he3, hz3, hd3⟩ := fl3.there
    have nfr : a ∉ frs (X.env :: X.outer) := fun hm => by
      obtain ⟨_, o', e', hnf⟩ := fl3.2.2.1.mem hm
      rw [he3] at e'; cases e'
      exact hnf _ hd3
    have nL : a ≠ X.env.locals := fun z => nfr (List.mem_filterMap.mpr ⟨X.env, List.mem_cons_self, by rw [hf, z]⟩)
    have nB : B.get? a = none := fl3.2.1
    have inB : ∀ {y : Addr} {o : Obj}, sI.heap.get? y = some o → y = a → False := fun {y o} e z => by
      subst z
      have := nb y o e (by rw [hs]; exact nfr)
      rw [nB] at this; cases this
    have n0 : X.s_0.heap.get? a = none := by
      cases e : X.s_0.heap.get? a with
      | none => rfl
      | some o =>
        obtain ⟨o', q⟩ := J.base.there a o e (by rw [hex]; simp)
        exact (inB q rfl).elim
    have npin : ∀ p ∈ X.pn ++ pins, p.1 ≠ a := fun p hp z => inB (J.pin p hp).1 z
    have test : ∀ {Q : Value → Shared → Prop} {E : Value → Shared → Prop}, Q c { s' with heap := h3 } → wpAny (model X.prog X.w) (X.A.mark (some (.ref a))) (eval (.Name x np) X.env) Q E { s' with heap := h3 } := fun {Q E} q => by
      obtain ⟨hg, hdbg, hm | ⟨hm, hv, hnn⟩⟩ := hc
      · exact ld_glob (X := X.suite a (X.pn ++ pins)) (inv_suite J3 a) hg hm q hdbg
      · exact ld_blt (X := X.suite a (X.pn ++ pins)) (inv_suite J3 a) hg hm hv q hnn hdbg
    have LT : PySem.W.Looks (model X.prog X.w) h3 (typeOf (.ref a)) cls := fun A Q E s k q => wpAny_typeOf_ref (k _ _ he3) (by rw [hz3.1]; exact q)
    refine wpAny_handleBy_cons (codeAny_handlers_test (test ((PySem.W.exm_one (M := model X.prog X.w) J3.kIn LT hb1).here ?_))) (by intro q; cases q)
    cases b with
    | true =>
      refine codeAny_handlers_suite_as (HandSPX.lands_againZ fl3 fun h4 fl4 up4 => ?_)
      have J4 : Inv X pins σ' H' { s' with heap := h4 } := J.landed nb fl4.1 ((up.trans up3).trans up4) os ag
      obtain ⟨oe4, vs4, he4, hz4, hd4⟩ := fl4.there
      have J5 := inv_suite (inv_note J4 he4 hz4 hd4 na n0 nL npin) a
      refine store_ok (X := X.suite a (X.pn ++ pins)) (v := .ref a) J5 hN hi (.inl hln) rfl (fun s5 S5 => ?_) (.inr hln)
      refine wpAny_mono ((hsu a (X.pn ++ pins)).run [] s5 _ _ _ S5 (hyes rfl a na)) (fun f s6 hsp => ?_) (fun _ _ z => False.elim z)
      have fin : ∀ {σ6 : L2.St} {H6 : Hp} {Q : Shared → Prop}, Inv (X.suite a (X.pn ++ pins)) [] σ6 H6 s6 → (∀ s7, Inv X pins (σ6.set i none) H6 s7 → Q s7) →
          wpAny (model X.prog X.w) X.A (do bindName X.env n .none; unbindBehindTheSuite X.env n pos') (fun _ s7 => Q s7) X.xe s6 := fun {σ6 H6 Q} S6 hq => gone_ok (inv_unsuite S6 ok) hN hi hln hq
      cases f with
      | next =>
        obtain ⟨σ6, H6, S6, q6⟩ := hsp
        exact fin S6 fun s7 J7 => ⟨_, _, J7, q6⟩
      | brk =>
        obtain ⟨σ6, H6, S6, q6⟩ := hsp
        exact fin S6 fun s7 J7 => ⟨_, _, J7, q6⟩
      | cont =>
        obtain ⟨σ6, H6, S6, q6⟩ := hsp
        exact fin S6 fun s7 J7 => ⟨_, _, J7, q6⟩
      | ret u =>
        obtain ⟨v6, σ6, H6, S6, r6, q6⟩ := hsp
        exact fin S6 fun s7 J7 => ⟨_, _, _, J7, r6, q6⟩
    | false =>
      show wpAny _ X.A (handleBy (.ref a) X.env []) _ _ _
      refine wpAny_handleBy_nil ?_
      obtain ⟨k1, k2, k3, oe, vs, T, oT, ts', he, hz, hd, h1, hr⟩ := id fl3
      unfold PySem.passOn
      refine wpAny_bind (wpAny_field he hd h1 ?_)
      rw [if_neg (show ¬ ((Value.ref T == Value.none) = true) from by simp)]
      have on : wpAny (model X.prog X.w) X.A (setFlight (.ref a) X.env.frame) (fun _ s4 => wpAny (model X.prog X.w) X.A (throw (.ref a) : Sem Flow) (SP X pins D) X.xe s4) X.xe { s' with heap := h3 } := by
        rw [hf]
        refine HandSPX.setFlight_upZ fl3 fun h4 hh4 up4 => wpAny_throw (tk _ _ ?_)
        exact ⟨a, B, sI, pins, σ', H', cls, d, rfl, J, nb, (up.trans up3).trans up4, .inr (.inr (by rw [hs]; exact hh4)), na, os, ag, hno rfl⟩
      first
        | exact wpAny_bind (wpAny_pure (wpAny_bind on))
        | exact wpAny_bind on
  refine wpAny_mono ((hb _ (X.pn ++ pins) _ caught).run [] s σ H D (I.toTry _) h) (fun f s1 hsp => ?_) (fun e s1 he => he)
  cases f with
  | next =>
    obtain ⟨σ', H', J', q⟩ := hsp
    exact wpAny_execs_nil ⟨σ', H', J'.ofTry ok, q⟩
  | brk =>
    obtain ⟨σ', H', J', q⟩ := hsp
    exact ⟨σ', H', J'.ofTry ok, q⟩
  | cont =>
    obtain ⟨σ', H', J', q⟩ := hsp
    exact ⟨σ', H', J'.ofTry ok, q⟩
  | ret u =>
    obtain ⟨v, σ', H', J', r, q⟩ := hsp
    exact ⟨v, σ', H', J'.ofTry ok, r, q⟩
end

/-! ### an own class without arguments, made -/
theorem pmk_own0 {X : Cx} {C : Addr} {bmB : List Value} {B newId initId : String} {x : Str} {p pos : Pos} (F : ExcBaseFacts B newId initId bmB) (q : PySem.W.excIn X.K C bmB newId = true) (gC : X.mg x = some (.ref C)) (kC : PySem.W.keepIn X.K (.ref C) = true)
    (r : Raises X (.ref C)) (hg : Gl X x) (hdb : (x == ("__debug__" : Str)) = false := by decide) : PMk X (.Call (.Name x p) [] [] pos) (fun _ H Q => Q (.ref C) none H) := by
  intro pins s σ H Q I h
  refine wpAny_Call_Name_kw (ld_glob I hg gC ?_ hdb)
  refine PySem.W.callWith_K0 I.kIn kC ?_
  show wpAny _ _ (call (.ref C) []) _ _ _
  obtain ⟨bm, N, nm, qn, bs, hdct, sn, sub, ab, col, dd, k0, k1, k2, k3, k5, mN, hC, hN, hni, T⟩ := exc_obj I.kIn q
  refine wpAny_call_exc_subT F T hC hN hni (fun h' e hm => ?_) (Nat.zero_le _)
  exact mk_of I hm r h (I.hok.gone hm.new)
end Sim
end T_SimX

section T_SimXB
set_option Elab.async false
set_option linter.all false
set_option maxRecDepth 100000
/-! SimXB: the rules for refusals. -/
namespace Sim
open PySem PySem.Spec L2
open PyProof.Rows hiding St

/-- a body's wish about refusals, by the names of their classes -/
abbrev wtOf (mg : Str → Option Value) (Wx : WX) : Wt := fun e σ H => Wcls mg e (WE Wx σ) H
abbrev veB : List Value := [.type "ValueError", .type "Exception", .type "BaseException", .type "object"]
/-- an own class of refusals -/
structure ExT (K : PySem.W.Frag) (mg : Str → Option Value) (c : Str) (C : Addr) : Prop where
  g : mg c = some (.ref C)
  n : PySem.W.nsIn K mainGlobals c = some (some (.ref C))
  k : PySem.W.keepIn K (.ref C) = true
  t : PySem.W.typeIn K (.ref C) = some (.type "type")
  x : ExcC K C

/-! ### raise -/
def gRaise (c : Str) : Gs := fun _ => .ex ⟨c, none⟩
theorem z_raise0 {X : Cx} {K : PySem.W.Frag} {L : Lk} {Δ Δn Δb Δc : List Kd} {Wx : WX} {mg : Str → Option Value} {c : Str} {C : Addr} {p pos pos' : Pos} (tk : Takes X Wx) (T : ExT K mg c C) (q : PySem.W.excIn K C veB "ValueError.__new__" = true)
    (hmg : X.mg = mg := by rfl) (hK : X.K = K := by rfl) (hc : X.calm = true := by rfl) (hg : Gl X c := by rfl) (hdb : (c == ("__debug__" : Str)) = false := by decide) :
    SD X K (wtOf mg Wx) L Δ Δn Δb Δc (.Raise (some (.Call (.Name c p) [] [] pos)) none pos') (fun _ σ H => Wx (.ref C) none σ H) (gRaise c) := by
  subst hK hmg
  exact ⟨ps_raise hc tk (pmk_own0 PySem.F.excBase_ValueError q T.g T.k (raises_own T.x.hs T.t) hg hdb), rfl, fun f ρ σ H E r q => q σ H r.ext C T.g⟩

/-! ### calls that may raise -/
def gCallX (n : Nat) (g : List Dt → O Dt) (gA : List Dt → O (List Dt)) : Gd := fun ρ => bnd (gA ρ) fun ds => if ds.length = n then g ds else .bad
def gCallXD (n : Nat) (g : List Dt → O Dt) (dv : List Dt) (gA : List Dt → O (List Dt)) : Gd := fun ρ => bnd (gA ρ) fun ds => if ds.length + dv.length = n then g (ds ++ dv) else .bad
def tCallSD (sp : Sp) (dvs : List V) (E : L2.St → XK) (t : TA) : TE := fun σ H Q => t σ H fun vs H1 => sp (vs ++ dvs) H1 Q (E σ)
section
variable {K : PySem.W.Frag} {Δ : List Kd} {ta : TA} {gA : List Dt → O (List Dt)} {av fr : Bool} {mg : Str → Option Value} {n : Nat} {g : List Dt → O Dt} {Wx : WX}
theorem se_callXN (h : SA K (wtOf mg Wx) Δ ta av fr gA) : SE K (wtOf mg Wx) Δ (tCallS (spG K mg n g) (WE Wx) ta) (.v true true) (gCallX n g gA) := fun f ρ σ H Q r q => h f ρ σ H _ r <| by
  unfold gCallX at q
  cases e : gA ρ with
  | bad => rw [e] at q; exact q
  | ex z => rw [e] at q; exact q
  | ok ds =>
    rw [e, bnd_ok] at q
    intro vs H1 s1 x1
    by_cases hn : ds.length = n
    · rw [if_pos hn] at q
      refine ⟨ds, by rw [x1.length]; exact hn, x1.weak fun _ _ => trivial, ?_⟩
      cases e2 : g ds with
      | bad => rw [e2] at q; exact q.elim
      | ex z => rw [e2] at q; exact fun H2 s2 => q H2 (s1.trans s2)
      | ok d =>
        rw [e2] at q
        intro v H2 s2 x2
        refine q v H2 (s1.trans s2) (x2.weak fun a na => ?_)
        obtain ⟨f1, f2, f3⟩ := (r.mono s1).fresh na
        exact ⟨fun _ => ⟨f1, f2⟩, fun _ => r.g0 a f3⟩
    · rw [if_neg hn] at q
      exact q.elim
theorem se_callXL (h : SA K (wtOf mg Wx) Δ ta av fr gA) : SE K (wtOf mg Wx) Δ (tCallS (spL K mg n g) (WE Wx) ta) (.new .l true) (gCallX n g gA) := fun f ρ σ H Q r q => h f ρ σ H _ r <| by
  unfold gCallX at q
  cases e : gA ρ with
  | bad => rw [e] at q; exact q
  | ex z => rw [e] at q; exact q
  | ok ds =>
    rw [e, bnd_ok] at q
    intro vs H1 s1 x1
    by_cases hn : ds.length = n
    · rw [if_pos hn] at q
      refine ⟨ds, by rw [x1.length]; exact hn, x1.weak fun _ _ => trivial, ?_⟩
      cases e2 : g ds with
      | bad => rw [e2] at q; exact q.elim
      | ex z => rw [e2] at q; exact fun H2 s2 => q H2 (s1.trans s2)
      | ok d =>
        rw [e2] at q
        intro p H2 np s2 x2
        refine q p H2 (s1.free np) (s1.trans s2) (x2.map (fun _ e => e) fun _ _ y => y.weak fun a na => ?_)
        obtain ⟨f1, f2, f3⟩ := (r.mono s1).fresh na.1
        exact ⟨⟨fun _ => ⟨f1, f2⟩, fun _ => r.g0 a f3⟩, na.2⟩
    · rw [if_neg hn] at q
      exact q.elim
theorem se_callXA (h : SA K (wtOf mg Wx) Δ ta av fr gA) : SE K (wtOf mg Wx) Δ (tCallS (spA K mg n g) (WE Wx) ta) (.v av fr) (gCallX n g gA) := fun f ρ σ H Q r q => h f ρ σ H _ r <| by
  unfold gCallX at q
  cases e : gA ρ with
  | bad => rw [e] at q; exact q
  | ex z => rw [e] at q; exact q
  | ok ds =>
    rw [e, bnd_ok] at q
    intro vs H1 s1 x1
    by_cases hn : ds.length = n
    · rw [if_pos hn] at q
      refine ⟨ds, _, by rw [x1.length]; exact hn, x1, ?_⟩
      cases e2 : g ds with
      | bad => rw [e2] at q; exact q.elim
      | ex z => rw [e2] at q; exact fun H2 s2 => q H2 (s1.trans s2)
      | ok d =>
        rw [e2] at q
        intro v H2 s2 x2
        refine q v H2 (s1.trans s2) (x2.weak fun a na => ?_)
        rcases na with na | na
        · exact na
        · obtain ⟨f1, f2, f3⟩ := (r.mono s1).fresh na
          exact ⟨fun _ => ⟨f1, f2⟩, fun _ => r.g0 a f3⟩
    · rw [if_neg hn] at q
      exact q.elim
theorem se_callXNDf {i : Int} (h : SA K (wtOf mg Wx) Δ ta av fr gA) : SE K (wtOf mg Wx) Δ (tCallSD (spG K mg n g) [V.int i] (WE Wx) ta) (.v true true) (gCallXD n g [.int i] gA) := fun f ρ σ H Q r q => h f ρ σ H _ r <| by
  unfold gCallXD at q
  cases e : gA ρ with
  | bad => rw [e] at q; exact q
  | ex z => rw [e] at q; exact q
  | ok ds =>
    rw [e, bnd_ok] at q
    intro vs H1 s1 x1
    by_cases hn : ds.length + [PyData.int i].length = n
    · rw [if_pos hn] at q
      refine ⟨ds ++ [.int i], by rw [List.length_append, x1.length]; exact hn, (x1.weak fun _ _ => trivial).append (.cons (.int i) .nil), ?_⟩
      cases e2 : g (ds ++ [.int i]) with
      | bad => rw [e2] at q; exact q.elim
      | ex z => rw [e2] at q; exact fun H2 s2 => q H2 (s1.trans s2)
      | ok d =>
        rw [e2] at q
        intro v H2 s2 x2
        refine q v H2 (s1.trans s2) (x2.weak fun a na => ?_)
        obtain ⟨f1, f2, f3⟩ := (r.mono s1).fresh na
        exact ⟨fun _ => ⟨f1, f2⟩, fun _ => r.g0 a f3⟩
    · rw [if_neg hn] at q
      exact q.elim
end
section
variable {X : Cx} {K : PySem.W.Frag} {Δ : List Kd} {e : Expr} {es : List Expr} {tA : TA} {gA : List Dt → O (List Dt)} {av fr : Bool} {pos p : Pos} {mg : Str → Option Value} {Wx : WX} {x : Str} {kk nn : Nat} {fa : Addr} {fd : FuncData} {ps : List Str} {gg : List Dt → O Dt}
theorem x_callXN (tk : Takes X Wx) (F : FnOk X.prog X.w X.K X.mg X.base (L2.CX X.prog X.w) kk fa fd ps (spG K mg nn gg)) (hr : Room kk X.A) (hm : X.mg x = some (.ref fa)) (hk : PySem.W.keepIn X.K (.ref fa) = true) (hb : Binds X.K fd ps [])
    (h : AD X K (wtOf mg Wx) Δ (e :: es) tA av fr gA) (hg : Gl X x := by rfl) (hdb : (x == ("__debug__" : Str)) = false := by decide) (he : starEach (e :: es) X.env = (false, eval e X.env) :: starEach es X.env := by rfl) (hpl : (backTo pos (starEach es X.env)).any (·.1) = false := by rfl) :
    PD X K (wtOf mg Wx) Δ (.Call (.Name x p) (e :: es) [] pos) (tCallS (spG K mg nn gg) (WE Wx) tA) (.v true true) (gCallX nn gg gA) := ⟨pe_callS F hr hg hm hk hb (fun σ => passAt tk σ) h.pa hdb he hpl, h.hK, se_callXN h.sa⟩
theorem x_callXL (tk : Takes X Wx) (F : FnOk X.prog X.w X.K X.mg X.base (L2.CX X.prog X.w) kk fa fd ps (spL K mg nn gg)) (hr : Room kk X.A) (hm : X.mg x = some (.ref fa)) (hk : PySem.W.keepIn X.K (.ref fa) = true) (hb : Binds X.K fd ps [])
    (h : AD X K (wtOf mg Wx) Δ (e :: es) tA av fr gA) (hg : Gl X x := by rfl) (hdb : (x == ("__debug__" : Str)) = false := by decide) (he : starEach (e :: es) X.env = (false, eval e X.env) :: starEach es X.env := by rfl) (hpl : (backTo pos (starEach es X.env)).any (·.1) = false := by rfl) :
    PD X K (wtOf mg Wx) Δ (.Call (.Name x p) (e :: es) [] pos) (tCallS (spL K mg nn gg) (WE Wx) tA) (.new .l true) (gCallX nn gg gA) := ⟨pe_callS F hr hg hm hk hb (fun σ => passAt tk σ) h.pa hdb he hpl, h.hK, se_callXL h.sa⟩
theorem x_callXA (tk : Takes X Wx) (F : FnOk X.prog X.w X.K X.mg X.base (L2.CX X.prog X.w) kk fa fd ps (spA K mg nn gg)) (hr : Room kk X.A) (hm : X.mg x = some (.ref fa)) (hk : PySem.W.keepIn X.K (.ref fa) = true) (hb : Binds X.K fd ps [])
    (h : AD X K (wtOf mg Wx) Δ (e :: es) tA av fr gA) (hg : Gl X x := by rfl) (hdb : (x == ("__debug__" : Str)) = false := by decide) (he : starEach (e :: es) X.env = (false, eval e X.env) :: starEach es X.env := by rfl) (hpl : (backTo pos (starEach es X.env)).any (·.1) = false := by rfl) :
    PD X K (wtOf mg Wx) Δ (.Call (.Name x p) (e :: es) [] pos) (tCallS (spA K mg nn gg) (WE Wx) tA) (.v av fr) (gCallX nn gg gA) := ⟨pe_callS F hr hg hm hk hb (fun σ => passAt tk σ) h.pa hdb he hpl, h.hK, se_callXA h.sa⟩
theorem run_fnXD {CX : CXT} {E : L2.St → XK} {sp : Sp} {dvs : List V} {ds : List Value} {pins : List (Addr × Obj)} {σ : L2.St} {H : Hp} {s : Shared} {Q : VK} {us : List Value} {vs : List V} (F : FnOk X.prog X.w X.K X.mg X.base CX kk fa fd ps sp) (hr : Room kk X.A) (hb : Binds X.K fd ps ds) (hd : Vals dvs ds)
    (hx : PassesAt CX X σ (E σ)) (I : Inv X pins σ H s) (r : Vals vs us) (h : sp (vs ++ dvs) H Q (E σ)) : wpAny (model X.prog X.w) X.A (call (.ref fa) us) (EP X pins σ Q) X.xe s := by
  have r2 : Vals (vs ++ dvs) (us ++ ds) := r.append hd
  have hl : (us ++ ds).length = ps.length := by rw [← r2.length]; exact F.len _ _ _ _ h
  refine wpAny_call (codeAny_mono (F.run X.A X.stack s H ⟨us, []⟩ (us ++ ds) (vs ++ dvs) Q (E σ) hr I.env0 (hb s us I.kIn hl) r2 h) fun r s' hq => ?_)
  cases r with
  | error e => exact hx pins H s e s' I hq
  | ok fl =>
    cases fl with
    | ret u => exact I.after hq
    | next => exact False.elim hq
    | brk => exact False.elim hq
    | cont => exact False.elim hq
theorem x_callXNDf {i : Int} (tk : Takes X Wx) (F : FnOk X.prog X.w X.K X.mg X.base (L2.CX X.prog X.w) kk fa fd ps (spG K mg nn gg)) (hr : Room kk X.A) (hm : X.mg x = some (.ref fa)) (hk : PySem.W.keepIn X.K (.ref fa) = true) (hb : ∃ ds, Vals [V.int i] ds ∧ Binds X.K fd ps ds)
    (h : AD X K (wtOf mg Wx) Δ (e :: es) tA av fr gA) (hg : Gl X x := by rfl) (hdb : (x == ("__debug__" : Str)) = false := by decide) (he : starEach (e :: es) X.env = (false, eval e X.env) :: starEach es X.env := by rfl) (hpl : (backTo pos (starEach es X.env)).any (·.1) = false := by rfl) :
    PD X K (wtOf mg Wx) Δ (.Call (.Name x p) (e :: es) [] pos) (tCallSD (spG K mg nn gg) [V.int i] (WE Wx) tA) (.v true true) (gCallXD nn gg [.int i] gA) := by
  obtain ⟨ds, hd, hb⟩ := hb
  refine ⟨⟨fun pins s σ H Q I q => ?_⟩, h.hK, se_callXNDf h.sa⟩
  refine wpAny_Call_Name_kw (ld_glob I hg hm ?_ hdb)
  refine PySem.W.callWith_K (h₀ := X.base) I.ok.mod.kin hk (thn (h.pa.run pos pins s σ H _ I q) fun us s1 ⟨vs, H1, I1, r, q⟩ => ⟨I1.kIn, ?_⟩) he hpl
  exact run_fnXD (E := WE Wx) F hr hb hd (passAt tk σ) I1 r q
end

/-! ### defs that may raise -/
def fnNX (m : Nat) (g : Gs) : List Dt → O Dt := fun ds => match g (ds ++ List.replicate (m - ds.length) .none) with
  | .ok (.rt d) => .ok d
  | .ok (.nx _) => .ok .none
  | .ex e => .ex e
  | _ => .bad
def fnLX (m : Nat) (g : Gs) : List Dt → O Dt := fun ds => match g (ds ++ List.replicate (m - ds.length) .none) with
  | .ok (.rt d) => .ok d
  | .ex e => .ex e
  | _ => .bad
abbrev wE (E : XK) : WX := fun cls d _ H => E cls d H
section
variable {P : Program} {w : World} {K : PySem.W.Frag} {mg : Str → Option Value} {base : Heap} {x qual : Str} {st : Stmt} {fa : Addr} {fd : FuncData} {N ps : List Str} {k n m : Nat} {Δn : List Kd} {g : Gs}
theorem fn_okNX (F : L2.Fun K x qual st fa fd) (S : FnScope N ps (defScope st)) (hn : ps.length = n) (hm : N.length = m) (hnm : n ≤ m)
    (hb : ∀ (cdv : Value) (A : Around) (outer : List Env) (s : Shared) (H : Hp) (E : XK), Room k (A.deeper (envOfC qual (defScope st) s.heap.objs.size fa cdv)) →
      Takes (cxOf (L2.CX P w) P w K mg base N qual (defScope st) fa cdv A outer s H E) (wE E) → PassesOwn (model P w) (cxOf (L2.CX P w) P w K mg base N qual (defScope st) fa cdv A outer s H E).A (cxOf (L2.CX P w) P w K mg base N qual (defScope st) fa cdv A outer s H E).env (cxOf (L2.CX P w) P w K mg base N qual (defScope st) fa cdv A outer s H E).xe →
      ∃ ts, BD (cxOf (L2.CX P w) P w K mg base N qual (defScope st) fa cdv A outer s H E) K (wtOf mg (wE E)) .n (kd0 n m false) Δn (kd0 n m false) (kd0 n m false) (defBody st) ts g) :
    FnOk P w K mg base (L2.CX P w) (k + 1) fa fd ps (spG K mg n (fnNX m g)) := by
  refine F.okX S (fun vs H Q E h => ?_) (fun cdv A outer s H vs Q E hr h => ?_)
  · obtain ⟨ds, h1, _⟩ := h
    rw [h1, hn]
  · obtain ⟨ds, h1, h2, h3⟩ := h
    obtain ⟨ts, B⟩ := hb cdv A outer s H E hr (takes_of rfl rfl rfl rfl) (passes_of (X := cxOf (L2.CX P w) P w K mg base N qual (defScope st) fa cdv A outer s H E) rfl)
    refine ⟨ts, B.ps, B.ss ⟨H, fun a => H a = none, [], [], none⟩ _ _ H _ (r_start h1 hm hnm h2 (fun _ h => h) (fun e => nomatch e)) ?_⟩
    unfold fnNX at h3
    cases e : g (ds ++ List.replicate (m - ds.length) .none) with
    | bad => rw [e] at h3; exact h3.elim
    | ex z => rw [e] at h3; exact fun σ' H' s => h3 H' s
    | ok fl =>
      rw [e] at h3
      cases fl with
      | nx ρ => exact fun σ' H' r => h3 .non H' r.ext .non
      | rt d => exact fun v H' s x => h3 v H' s x
      | bk ρ => exact h3.elim
      | ct ρ => exact h3.elim
theorem fn_okLX (F : L2.Fun K x qual st fa fd) (S : FnScope N ps (defScope st)) (hn : ps.length = n) (hm : N.length = m) (hnm : n ≤ m)
    (hb : ∀ (cdv : Value) (A : Around) (outer : List Env) (s : Shared) (H : Hp) (E : XK), Room k (A.deeper (envOfC qual (defScope st) s.heap.objs.size fa cdv)) →
      Takes (cxOf (L2.CX P w) P w K mg base N qual (defScope st) fa cdv A outer s H E) (wE E) → PassesOwn (model P w) (cxOf (L2.CX P w) P w K mg base N qual (defScope st) fa cdv A outer s H E).A (cxOf (L2.CX P w) P w K mg base N qual (defScope st) fa cdv A outer s H E).env (cxOf (L2.CX P w) P w K mg base N qual (defScope st) fa cdv A outer s H E).xe →
      ∃ ts, BD (cxOf (L2.CX P w) P w K mg base N qual (defScope st) fa cdv A outer s H E) K (wtOf mg (wE E)) .l (kd0 n m false) Δn (kd0 n m false) (kd0 n m false) (defBody st) ts g) :
    FnOk P w K mg base (L2.CX P w) (k + 1) fa fd ps (spL K mg n (fnLX m g)) := by
  refine F.okX S (fun vs H Q E h => ?_) (fun cdv A outer s H vs Q E hr h => ?_)
  · obtain ⟨ds, h1, _⟩ := h
    rw [h1, hn]
  · obtain ⟨ds, h1, h2, h3⟩ := h
    obtain ⟨ts, B⟩ := hb cdv A outer s H E hr (takes_of rfl rfl rfl rfl) (passes_of (X := cxOf (L2.CX P w) P w K mg base N qual (defScope st) fa cdv A outer s H E) rfl)
    refine ⟨ts, B.ps, B.ss ⟨H, fun a => H a = none, [], [], none⟩ _ _ H _ (r_start h1 hm hnm h2 (fun _ h => h) (fun e => nomatch e)) ?_⟩
    unfold fnLX at h3
    cases e : g (ds ++ List.replicate (m - ds.length) .none) with
    | bad => rw [e] at h3; exact h3.elim
    | ex z => rw [e] at h3; exact fun σ' H' s => h3 H' s
    | ok fl =>
      rw [e] at h3
      cases fl with
      | nx ρ => exact h3.elim
      | rt d => exact fun p H' np s x => h3 p H' np s x
      | bk ρ => exact h3.elim
      | ct ρ => exact h3.elim
theorem fn_okAX (F : L2.Fun K x qual st fa fd) (S : FnScope N ps (defScope st)) (hn : ps.length = n) (hm : N.length = m) (hnm : n ≤ m)
    (hb : ∀ (cdv : Value) (A : Around) (outer : List Env) (s : Shared) (H : Hp) (E : XK), Room k (A.deeper (envOfC qual (defScope st) s.heap.objs.size fa cdv)) →
      Takes (cxOf (L2.CX P w) P w K mg base N qual (defScope st) fa cdv A outer s H E) (wE E) → PassesOwn (model P w) (cxOf (L2.CX P w) P w K mg base N qual (defScope st) fa cdv A outer s H E).A (cxOf (L2.CX P w) P w K mg base N qual (defScope st) fa cdv A outer s H E).env (cxOf (L2.CX P w) P w K mg base N qual (defScope st) fa cdv A outer s H E).xe →
      ∃ ts, BD (cxOf (L2.CX P w) P w K mg base N qual (defScope st) fa cdv A outer s H E) K (wtOf mg (wE E)) .n (kd0 n m true) Δn (kd0 n m true) (kd0 n m true) (defBody st) ts g) :
    FnOk P w K mg base (L2.CX P w) (k + 1) fa fd ps (spA K mg n (fnNX m g)) := by
  refine F.okX S (fun vs H Q E h => ?_) (fun cdv A outer s H vs Q E hr h => ?_)
  · obtain ⟨ds, F, h1, _⟩ := h
    rw [h1, hn]
  · obtain ⟨ds, F, h1, h2, h3⟩ := h
    obtain ⟨ts, B⟩ := hb cdv A outer s H E hr (takes_of rfl rfl rfl rfl) (passes_of (X := cxOf (L2.CX P w) P w K mg base N qual (defScope st) fa cdv A outer s H E) rfl)
    refine ⟨ts, B.ps, B.ss ⟨H, fun a => F a ∨ H a = none, [], [], none⟩ _ _ H _ (r_start h1 hm hnm h2 (fun _ h => .inr h) (fun _ a h => .inl h)) ?_⟩
    unfold fnNX at h3
    cases e : g (ds ++ List.replicate (m - ds.length) .none) with
    | bad => rw [e] at h3; exact h3.elim
    | ex z => rw [e] at h3; exact fun σ' H' s => h3 H' s
    | ok fl =>
      rw [e] at h3
      cases fl with
      | nx ρ => exact fun σ' H' r => h3 .non H' r.ext .non
      | rt d => exact fun v H' s x => h3 v H' s x
      | bk ρ => exact h3.elim
      | ct ρ => exact h3.elim
end

/-! ### try .. except x as n -/
def noX (o : O Fl) : O Fl := match o with
  | .ex _ => .bad
  | .ok a => .ok a
  | .bad => .bad
def gTry (gb : Gs) (yes no : List Str) (i : Nat) (gh : Gs) : Gs := fun ρ => match gb ρ with
  | .ex e => if yes.contains e.cls then noX (gh (ρ.set i (exnD e.cls e.arg))) else if no.contains e.cls then .ex e else .bad
  | .ok a => .ok a
  | .bad => .bad
def PoSx (K : PySem.W.Frag) (W : Wt) (L : Lk) (f : Fm) (Δn Δb Δc : List Kd) (σ : L2.St) (H : Hp) (o : O Fl) (E : Ends) : Prop := match o with
  | .ex e => ∀ H', Same H H' → W e σ H'
  | .ok a => PoS K W L f Δn Δb Δc (.ok a) E
  | .bad => False
/-- as SS, and a refusal leaves the slots as they are -/
def SSx (K : PySem.W.Frag) (W : Wt) (L : Lk) (Δ Δn Δb Δc : List Kd) (ts : TS) (g : Gs) : Prop := ∀ f ρ σ H E, R K f Δ ρ σ H → PoSx K W L f Δn Δb Δc σ H (g ρ) E → ts E σ H
structure SDx (X : Cx) (K : PySem.W.Frag) (W : Wt) (L : Lk) (Δ Δn Δb Δc : List Kd) (st : Stmt) (ts : TS) (g : Gs) : Prop where
  ps : PS X st ts
  hK : X.K = K
  ss : SSx K W L Δ Δn Δb Δc ts g
structure BDx (X : Cx) (K : PySem.W.Frag) (W : Wt) (L : Lk) (Δ Δn Δb Δc : List Kd) (sts : List Stmt) (ts : TS) (g : Gs) : Prop where
  ps : PSs X sts ts
  hK : X.K = K
  ss : SSx K W L Δ Δn Δb Δc ts g
section
variable {K : PySem.W.Frag} {f : Fm} {Δ : List Kd} {ρ : List Dt} {σ : L2.St} {H : Hp} {i : Nat}
theorem R.gone (r : R K f Δ ρ σ H) (h : Δ[i]? = some .no) : R K f Δ ρ (σ.set i none) H := by
  have ne : ∀ {j : Nat} {k : Kd}, Δ[j]? = some k → k ≠ .no → i ≠ j := fun {j k} e n z => by
    subst z
    rw [h] at e
    cases e
    exact n rfl
  have ow' : ∀ a, Ow Δ (σ.set i none) a → Ow Δ σ a := fun a ⟨j, c, fr, h1, h2⟩ => by
    rw [List.getElem?_set_ne (ne h1 (fun z => nomatch z))] at h2
    exact ⟨j, c, fr, h1, h2⟩
  have key : ∀ {fr : Bool} {v : V} {d : Dt}, Rp K (FM f Δ σ true fr) H v d → Rp K (FM f Δ (σ.set i none) true fr) H v d := fun h =>
    h.weak fun a fa => ⟨fun _ => ⟨fun z => (fa.1 rfl).1 (ow' a z), (fa.1 rfl).2⟩, fa.2⟩
  refine ⟨r.ext, r.g0, by rw [List.length_set]; exact r.lσ, r.lρ, fun j l cj fj cl fl p h1 h2 h3 h4 => ?_, fun a ha => ⟨(r.pin a ha).1, fun z => (r.pin a ha).2 (ow' a z)⟩, fun g hg => (r.gh g hg).map fun _ _ x => key x, fun j fr h' => ?_, fun j c fr h' => ?_, fun j c fr h' ha => ?_⟩
  · rw [List.getElem?_set_ne (ne h1 (fun z => nomatch z))] at h3
    rw [List.getElem?_set_ne (ne h2 (fun z => nomatch z))] at h4
    exact r.inj j l cj fj cl fl p h1 h2 h3 h4
  · obtain ⟨v, d, h1, h2, h3⟩ := r.im j fr h'
    exact ⟨v, d, by rw [List.getElem?_set_ne (ne h' (fun z => nomatch z))]; exact h1, h2, key h3⟩
  · obtain ⟨p, d, h1, h2, h3, h4⟩ := r.ow j c fr h'
    exact ⟨p, d, by rw [List.getElem?_set_ne (ne h' (fun z => nomatch z))]; exact h1, h2, h3, h4.map (fun o e => e) fun _ _ x => key x⟩
  · obtain ⟨p, h1, h2⟩ := r.ar j c fr h' ha
    exact ⟨p, h1, by rw [List.getElem?_set_ne (ne h' (fun z => nomatch z))]; exact h2⟩
end
section
variable {K : PySem.W.Frag} {W : Wt} {L : Lk} {Δ Δ1 Δn Δb Δc : List Kd} {te : TE} {tt : TT} {t u ts : TS} {g : Gd} {gt : List Dt → O Bool} {ga gb gh : Gs} {fr av : Bool} {k : Rk} {i : Nat} {mg : Str → Option Value}
theorem sx_drop (h : SE K W Δ te k g) : SSx K W L Δ Δ Δb Δc (tDrop te) (gDrop g) := fun f ρ σ H E r q => h f ρ σ H _ r <| by
  unfold gDrop at q
  cases e : g ρ with
  | bad => rw [e] at q; exact q
  | ex z => rw [e] at q; exact q
  | ok d =>
    rw [e] at q
    cases k with
    | v av fr => exact fun v H' s x => q σ H' (r.mono s)
    | o fr => exact fun p H' vs ds e s _ _ _ => q σ H' (r.mono s)
    | new c fr => exact fun p H' np s x => q σ H' (r.mono s)
theorem sx_set (hi : i < Δ.length) (h : SE K W Δ te (.v true fr) g) : SSx K W L Δ (Δ.set i (.im fr)) Δb Δc (tAsg te (gName i)) (gSet i g) := fun f ρ σ H E r q => h f ρ σ H _ r <| by
  unfold gSet at q
  cases e : g ρ with
  | bad => rw [e] at q; exact q
  | ex z => rw [e] at q; exact q
  | ok d =>
    rw [e] at q
    exact fun v H' s x => q _ H' ((r.mono s).setIm hi x)
theorem sx_if (h : ST K W Δ tt gt) (h1 : SSx K W L Δ Δn Δb Δc t ga) (h2 : SSx K W L Δ Δn Δb Δc u gb) : SSx K W L Δ Δn Δb Δc (tIfS tt t u) (gIfS gt ga gb) := fun f ρ σ H E r q => h f ρ σ H _ r <| by
  unfold gIfS at q
  cases e : gt ρ with
  | bad => rw [e] at q; exact q
  | ex z => rw [e] at q; exact q
  | ok c =>
    rw [e, bnd_ok] at q
    intro H1 s
    have up : ∀ {o : O Fl}, PoSx K W L f Δn Δb Δc σ H o E → PoSx K W L f Δn Δb Δc σ H1 o E := fun {o} q => by
      cases o with
      | bad => exact q
      | ok a => exact q
      | ex z => exact fun H' s' => q H' (s.trans s')
    cases c with
    | true => exact h1 f ρ σ H1 E (r.mono s) (up q)
    | false => exact h2 f ρ σ H1 E (r.mono s) (up q)
theorem SSx.post {Δn' : List Kd} (h : SSx K W L Δ Δn Δb Δc t ga) (ln : leA Δn Δn' = true) : SSx K W L Δ Δn' Δb Δc t ga := fun f ρ σ H E r q => h f ρ σ H E r <| by
  cases e : ga ρ with
  | bad => rw [e] at q; exact q
  | ex z => rw [e] at q; exact q
  | ok fl =>
    rw [e] at q
    cases fl with
    | nx ρ' => exact fun σ' H' r => q σ' H' (r.weak ln)
    | rt d => exact q
    | bk ρ' => exact q
    | ct ρ' => exact q
theorem s_tryX {C : Addr} {c : Str} {yes no : List Str} {tb : WX → TS} {Wout : WX} (T : ExT K mg c C)
    (hyes : ∀ y ∈ yes, ∃ D, PySem.W.nsIn K mainGlobals y = some (some (.ref D)) ∧ mg y = some (.ref D) ∧ PySem.W.subIn K (.ref D) (.ref C) = some true)
    (hno : ∀ y ∈ no, ∃ D, PySem.W.nsIn K mainGlobals y = some (some (.ref D)) ∧ mg y = some (.ref D) ∧ PySem.W.subIn K (.ref D) (.ref C) = some false)
    (hW : ∀ e σ H, W e σ H → wtOf mg Wout e σ H) (hi : i < Δ.length) (en : Δn[i]? = some .no) (eb : Δb[i]? = some .no) (ec : Δc[i]? = some .no)
    (hb : ∀ Wx : WX, SSx K (wtOf mg Wx) L Δ Δn Δb Δc (tb Wx) gb) (hsu : SS K W0 L (Δ.set i (.im true)) Δn Δb Δc ts gh) :
    SS K W L Δ Δn Δb Δc (fun D σ H => tb (wX K (.ref C) i ts Wout D) D σ H) (gTry gb yes no i gh) := fun f ρ σ H E r q => hb _ f ρ σ H E r <| by
  unfold gTry at q
  cases e : gb ρ with
  | bad => rw [e] at q; exact q
  | ok a =>
    rw [e] at q
    cases a with
    | nx ρ' => exact q
    | rt d => exact q
    | bk ρ' => exact q
    | ct ρ' => exact q
  | ex z =>
    rw [e] at q
    have q : PoS K W L f Δn Δb Δc (if yes.contains z.cls then noX (gh (ρ.set i (exnD z.cls z.arg))) else if no.contains z.cls then .ex z else .bad) E := q
    intro H' s C' hC'
    by_cases hy : yes.contains z.cls = true
    · rw [if_pos hy] at q
      obtain ⟨D, h1, h2, h3⟩ := hyes z.cls (by simpa using hy)
      rw [h2] at hC'
      cases hC'
      have key : ∀ d, XdAt H' d z.arg → wX K (.ref C) i ts Wout E (.ref C') d σ H' := fun d hd => by
        refine ⟨true, PySem.W.exm_ref T.x.hs T.x.hd T.t h3, fun _ a na => ?_, (fun z => nomatch z)⟩
        refine hsu f (ρ.set i (exnD z.cls z.arg)) _ _ (goneE i E) ((r.mono (s.trans (same_upd na))).setIm hi (.exn h1 upd_same (hd.same (same_upd na)))) ?_
        cases e2 : gh (ρ.set i (exnD z.cls z.arg)) with
        | bad => rw [e2] at q; exact q
        | ex y => rw [e2] at q; exact q.elim
        | ok fl =>
          rw [e2] at q
          cases fl with
          | nx ρ' => exact fun σ' H2 r' => q _ H2 (r'.gone en)
          | rt d => exact q
          | bk ρ' => exact fun σ' H2 r' => q _ H2 (r'.gone eb)
          | ct ρ' => exact fun σ' H2 r' => q _ H2 (r'.gone ec)
      cases ea : z.arg with
      | none => exact key none (by rw [ea]; exact rfl)
      | some m => exact fun d hd => key (some d) (by rw [ea]; exact ⟨d, rfl, hd⟩)
    · rw [if_neg hy] at q
      by_cases hn : no.contains z.cls = true
      · rw [if_pos hn] at q
        obtain ⟨D, h1, h2, h3⟩ := hno z.cls (by simpa using hn)
        have w := hW z σ H' (q σ H' (r.ext.trans s)) C' hC'
        rw [h2] at hC'
        cases hC'
        have key : ∀ d, Wout (.ref C') d σ H' → wX K (.ref C) i ts Wout E (.ref C') d σ H' := fun d w => ⟨false, PySem.W.exm_ref T.x.hs T.x.hd T.t h3, (fun z => nomatch z), fun _ => w⟩
        cases ea : z.arg with
        | none => rw [ea] at w; exact key none w
        | some m => rw [ea] at w; exact fun d hd => key (some d) (w d hd)
      · rw [if_neg hn] at q
        exact q.elim
end

section
variable {X : Cx} {K : PySem.W.Frag} {W : Wt} {L : Lk} {Δ Δ1 Δn Δb Δc : List Kd} {e c : Expr} {te : TE} {tt : TT} {t u ts : TS} {g : Gd} {gt : List Dt → O Bool} {ga gb gh g1 g2 : Gs} {fr av : Bool} {k : Rk} {mg : Str → Option Value} {st : Stmt} {sts sts2 : List Stmt} {pos pos' : Pos}
theorem y_drop (h : PD X K W Δ e te k g) (hs : swapsWith e none pos.line X.env = pure false := by rfl) : SDx X K W L Δ Δ Δb Δc (.Expr e pos) (tDrop te) (gDrop g) := ⟨ps_expr h.pe hs, h.hK, sx_drop h.se⟩
theorem y_set (i : Nat) {x : Str} (hN : X.N.Nodup) (h : PD X K W Δ e te (.v true fr) g) (hn : i < Δ.length := by decide) (hi : X.N[i]? = some x := by rfl) (hx : Loc X.env.scope x := by first | exact .inl rfl | exact .inr rfl) (hs : swapsWith e (some (.Name x pos')) pos.line X.env = pure false := by rfl)
    (hf : X.fn x = true ∨ X.env.scope.names.lookup x = some .local := by first | exact .inl rfl | exact .inr rfl) : SDx X K W L Δ (Δ.set i (.im fr)) Δb Δc (.Assign [.Name x pos'] e pos) (tAsg te (gName i)) (gSet i g) :=
  ⟨(z_set (L := .n) (Δb := []) (Δc := []) i hN h hn hi hx hs hf).ps, h.hK, sx_set hn h.se⟩
theorem y_if (h : TD X K W Δ c tt gt) (h1 : BDx X K W L Δ Δn Δb Δc sts t g1) (h2 : BDx X K W L Δ Δn Δb Δc sts2 u g2) : SDx X K W L Δ Δn Δb Δc (.If c sts sts2 pos) (tIfS tt t u) (gIfS gt g1 g2) := ⟨ps_if h.pt h1.ps h2.ps, h.hK, sx_if h.st h1.ss h2.ss⟩
theorem y_one (h : SDx X K W L Δ Δn Δb Δc st t g1) : BDx X K W L Δ Δn Δb Δc [st] t g1 := ⟨pss_one h.ps, h.hK, h.ss⟩
theorem BDx.to (Δn' : List Kd) (h : BDx X K W L Δ Δn Δb Δc sts t g1) (l : leA Δn Δn' = true := by rfl) : BDx X K W L Δ Δn' Δb Δc sts t g1 := ⟨h.ps, h.hK, h.ss.post l⟩
theorem z_tryX {C : Addr} {x n : Str} {yes no : List Str} {tb : WX → TS} {Wout : WX} {b₀ : Stmt} {np ph : Pos} {body suite : List Stmt} (i : Nat) (T : ExT K mg x C) (tk : Takes X Wout)
    (hyes : ∀ y ∈ yes, ∃ D, PySem.W.nsIn K mainGlobals y = some (some (.ref D)) ∧ mg y = some (.ref D) ∧ PySem.W.subIn K (.ref D) (.ref C) = some true)
    (hno : ∀ y ∈ no, ∃ D, PySem.W.nsIn K mainGlobals y = some (some (.ref D)) ∧ mg y = some (.ref D) ∧ PySem.W.subIn K (.ref D) (.ref C) = some false)
    (hW : ∀ e σ H, W e σ H → wtOf mg Wout e σ H) (hN : X.N.Nodup)
    (hb : ∀ (Wx : WX) (pn : List (Addr × Obj)) (xe : Value → Shared → Prop), Takes (X.tr pn xe) Wx → BDx (X.tr pn xe) K (wtOf mg Wx) L Δ Δn Δb Δc body (tb Wx) gb)
    (hsu : ∀ (a : Addr) (pn : List (Addr × Obj)), BD (X.suite a pn) K W0 L (Δ.set i (.im true)) Δn Δb Δc (b₀ :: suite) ts gh)
    (hi : i < Δ.length := by decide) (en : Δn[i]? = some .no := by rfl) (eb : Δb[i]? = some .no := by rfl) (ec : Δc[i]? = some .no := by rfl)
    (hn : X.N[i]? = some n := by rfl) (hln : X.env.kindOf n = some .local := by rfl) (hmg : X.mg = mg := by rfl) (hK : X.K = K := by rfl) (hs : X.stack = X.env :: X.outer := by rfl) (hf : X.env.frame = some X.env.locals := by rfl) (hex : X.ex = [] := by rfl)
    (hg : Gl X x := by rfl) (hdb : (x == ("__debug__" : Str)) = false := by decide) :
    SD X K W L Δ Δn Δb Δc (.Try body [.ExceptHandler (some (.Name x np)) (some n) (b₀ :: suite) ph] [] [] pos) (fun D σ H => tb (wX K (.ref C) i ts Wout D) D σ H) (gTry gb yes no i gh) := by
  subst hK hmg
  exact ⟨ps_tryX hs hf hex hN hn hln ⟨hg, hdb, .inl T.g⟩ tk (fun W pn xe tk => (hb W pn xe tk).ps) (fun a pn => (hsu a pn).ps), rfl, s_tryX T hyes hno hW hi en eb ec (fun Wx => (hb Wx [] (fun _ _ => True) (fun _ _ _ => trivial)).ss) (hsu 0 []).ss⟩
end

theorem co_nil {K : PySem.W.Frag} {mg : Str → Option Value} {C : Addr} {b : Bool} : ∀ y ∈ ([] : List Str), ∃ D, PySem.W.nsIn K mainGlobals y = some (some (.ref D)) ∧ mg y = some (.ref D) ∧ PySem.W.subIn K (.ref D) (.ref C) = some b := fun y h => nomatch h
theorem co_cons {K : PySem.W.Frag} {mg : Str → Option Value} {C D : Addr} {b : Bool} {y : Str} {ys : List Str} (T : ExT K mg y D) (e : PySem.W.subIn K (.ref D) (.ref C) = some b) (h : ∀ y ∈ ys, ∃ D, PySem.W.nsIn K mainGlobals y = some (some (.ref D)) ∧ mg y = some (.ref D) ∧ PySem.W.subIn K (.ref D) (.ref C) = some b) :
    ∀ z ∈ y :: ys, ∃ D, PySem.W.nsIn K mainGlobals z = some (some (.ref D)) ∧ mg z = some (.ref D) ∧ PySem.W.subIn K (.ref D) (.ref C) = some b := fun z hz => by
  rcases List.mem_cons.mp hz with rfl | hz
  · exact ⟨D, T.n, T.g, e⟩
  · exact h z hz
/-! ### isinstance of what was caught -/
def isxTab (tab : List (Str × Bool)) (c : Str) : Option Bool := (tab.find? fun p => p.1 == c).map (·.2)
def hIsX (tab : List (Str × Bool)) : Dt → O Dt := fun d => match d with
  | .dict [(.none, .str c), (.none, .none)] => (match isxTab tab c with
    | some b => .ok (.bool b)
    | none => .bad)
  | _ => .bad
/-- the table's facts: for each name its class, and what is told of it -/
def TabOk (K : PySem.W.Frag) (tab : List (Str × Bool)) (ans : Addr → Option Bool) : Prop := ∀ p ∈ tab, ∃ D, PySem.W.nsIn K mainGlobals p.1 = some (some (.ref D)) ∧ ExcC K D ∧ ans D = some p.2
theorem tab_nil {K : PySem.W.Frag} {ans : Addr → Option Bool} : TabOk K [] ans := fun p h => nomatch h
theorem tab_cons {K : PySem.W.Frag} {mg : Str → Option Value} {ans : Addr → Option Bool} {c : Str} {b : Bool} {D : Addr} {tab : List (Str × Bool)} (T : ExT K mg c D) (e : ans D = some b) (h : TabOk K tab ans) : TabOk K ((c, b) :: tab) ans := fun p hp => by
  rcases List.mem_cons.mp hp with rfl | hp
  · exact ⟨D, T.n, T.x, e⟩
  · exact h p hp
theorem kit_ref {K : PySem.W.Frag} {mg : Str → Option Value} {c : Str} {C D : Addr} {b : Bool} (T : ExT K mg c C) (e : PySem.W.subIn K (.ref D) (.ref C) = some b) (ed : D = C → b = true) : PySem.W.kitOne K (.ref D) (.ref C) = some b := by
  unfold PySem.W.kitOne PySem.W.kitCls
  by_cases h : (Value.ref D == Value.ref C) = true
  · rw [if_pos h, ed (Value.ref.inj (beq_iff_eq.mp h))]
  · rw [if_neg h]
    have e1 : ((PySem.W.clsIn K C).isSome && PySem.W.typeIn K (.ref C) == some (.type "type")) = true := by
      obtain ⟨cd, hc, _⟩ := PySem.W.any_some T.x.hd
      rw [hc, T.t]
      rfl
    show (if ((PySem.W.clsIn K C).isSome && PySem.W.typeIn K (.ref C) == some (.type "type")) = true then PySem.W.subIn K (.ref D) (.ref C) else none) = some b
    rw [if_pos e1]
    exact e
theorem kit_bi {K : PySem.W.Frag} {D : Addr} {n : String} {b : Bool} (e : PySem.W.subIn K (.ref D) (.type n) = some b) (hm : PySem.W.kitMeta n = true := by decide +kernel) : PySem.W.kitOne K (.ref D) (.type n) = some b := by
  unfold PySem.W.kitOne PySem.W.kitCls
  rw [if_neg (show ¬ (Value.ref D == Value.type n) = true from by simp)]
  show (if PySem.W.kitMeta n = true then PySem.W.subIn K (.ref D) (.type n) else none) = some b
  rw [if_pos hm]
  exact e
/-- isinstance(x, c), x a tracked exception -/
def rIsX (K : PySem.W.Frag) : List V → Hp → VK → Prop := fun xs H Q => ∃ (a D : Addr) (c : V) (cv : Value) (b : Bool), xs = [.ref a, c] ∧ H a = some (ExH (.ref D) none a) ∧ ExcC K D ∧ (∀ u, RelV c u → u = cv) ∧ PySem.W.kitOne K (.ref D) cv = some b ∧ Q (.bl b) H
theorem call_isX {X : Cx} : CallR X (.builtin "isinstance") (rIsX X.K) := by
  intro pins s σ H xs us Q I r h
  obtain ⟨a, D, c, cv, b, rfl, ha, C, hcv, e, q⟩ := h
  cases r with
  | cons rx rr =>
    cases rr with
    | cons rt rr =>
      cases rr
      cases rx
      have ec := hcv _ rt
      subst ec
      obtain ⟨⟨oe, vs, ho, hz, hv⟩, _, _⟩ := I.hok a _ ha
      have J : PySem.W.InstAt s.heap a oe D none := by
        obtain ⟨oc, od, oda, osl⟩ := oe
        obtain ⟨h1, h2⟩ := hz
        dsimp only at h1 h2 hv
        subst h1 h2 hv
        exact ⟨ho, rfl, rfl, trivial⟩
      exact PySem.W.kia_one (PySem.W.handS_kitx_exc C.hg C.hk C.hs C.hd C.ha C.hn C.ht C.hm) I.kIn J e (fun z => nomatch z) fun tk => ⟨.bl b, H, I.kept (t' := tk) fun _ _ z => z, rfl, q⟩
theorem rp_exn {K : PySem.W.Frag} {F : Addr → Prop} {H : Hp} {v : V} {c : Str} (x : Rp K F H v (.dict [(.none, .str c), (.none, .none)])) : ∃ a C, v = .ref a ∧ PySem.W.nsIn K mainGlobals c = some (some (.ref C)) ∧ H a = some (ExH (.ref C) none a) := by
  generalize ed : PyData.dict [(.none, .str c), (.none, .none)] = d at x
  cases x with
  | dic h fa hk r =>
    rename_i a kvs es
    injection ed with ed
    subst ed
    cases kvs with
    | nil => cases hk
    | cons kv kvs =>
      rw [List.map_cons, List.map_cons] at hk
      injection hk with h1 h2
      obtain ⟨k, w⟩ := kv
      cases k <;> cases h1
  | exn n h hx =>
    rename_i a C cls d m
    injection ed with ed
    injection ed with e1 e2
    injection e1 with _ e1
    injection e1 with e1
    injection e2 with e2 _
    injection e2 with _ e2
    subst e1
    cases m with
    | none =>
      have hx : d = none := hx
      subst hx
      exact ⟨a, C, rfl, n, h⟩
    | some i => cases e2
  | _ => cases ed
theorem se_isX {K : PySem.W.Frag} {W : Wt} {Δ : List Kd} {te : TE} {g : Gd} {av fr : Bool} {c : V} {cv : Value} {tab : List (Str × Bool)} (hcv : ∀ u, RelV c u → u = cv) (ht : TabOk K tab fun D => PySem.W.kitOne K (.ref D) cv) (ha : SE K W Δ te (.v av fr) g) :
    SE K W Δ (tCB (rIsX K) (tCons te (tCons (tC c) tNil))) (.v true true) (gUn (hIsX tab) g) := fun f ρ σ H Q R q => by
  refine ha f ρ σ H _ R ?_
  unfold gUn at q
  cases e1 : g ρ with
  | bad => rw [e1] at q; exact q
  | ex z => rw [e1] at q; exact q
  | ok d =>
    rw [e1, bnd_ok] at q
    intro v H1 s1 x1
    unfold hIsX at q
    split at q
    · rename_i cn
      obtain ⟨a, C, rfl, hn, hp⟩ := rp_exn x1
      cases et : isxTab tab cn with
      | none => rw [et] at q; exact q.elim
      | some b =>
        rw [et] at q
        unfold isxTab at et
        obtain ⟨p, ep, eb⟩ := Option.map_eq_some_iff.mp et
        have h1 := List.mem_of_find?_eq_some ep
        have h2 := List.find?_some ep
        have h2 : p.1 = cn := by simpa using h2
        obtain ⟨D, k1, k2, k3⟩ := ht p h1
        rw [h2, hn] at k1
        cases k1
        subst eb
        exact ⟨a, C, c, cv, p.2, rfl, hp, k2, hcv, k3, q _ H1 s1 (.bl _)⟩
    · exact q.elim
theorem pe_cls {X : Cx} {x : Str} {C : Addr} {p : Pos} (hm : X.mg x = some (.ref C)) (hg : Gl X x) (hdb : (x == ("__debug__" : Str)) = false) : PE X (.Name x p) (tC (.ref C)) := ⟨fun pins s σ H Q I h => ld_glob I hg hm ⟨.ref C, H, I, rfl, h⟩ hdb⟩
section
variable {X : Cx} {K : PySem.W.Frag} {W : Wt} {Δ : List Kd} {e : Expr} {te : TE} {g : Gd} {av fr : Bool} {pos p p2 : Pos} {mg : Str → Option Value} {tab : List (Str × Bool)}
theorem x_isX {x : Str} {C : Addr} (hm : X.mg "isinstance" = none) (hx : X.mg x = some (.ref C)) (ht : TabOk K tab fun D => PySem.W.kitOne K (.ref D) (.ref C)) (h : PD X K W Δ e te (.v av fr) g) (hg2 : Gl X x := by rfl) (hdb : (x == ("__debug__" : Str)) = false := by decide)
    (hg : Gl X "isinstance" := by rfl)
    (he : starEach [e, .Name x p2] X.env = (false, eval e X.env) :: starEach [.Name x p2] X.env := by rfl) (he2 : starEach [.Name x p2] X.env = (false, eval (.Name x p2) X.env) :: starEach [] X.env := by rfl) (hpl : (backTo pos (starEach [.Name x p2] X.env)).any (·.1) = false := by rfl) :
    PD X K W Δ (.Call (.Name "isinstance" p) [e, .Name x p2] [] pos) (tCB (rIsX K) (tCons te (tCons (tC (.ref C)) tNil))) (.v true true) (gUn (hIsX tab) g) :=
  ⟨pe_callB (by have q := call_isX (X := X); rw [h.hK] at q; exact q) hg hm (by decide +kernel) (pa_cons h.pe (pa_cons (pe_cls hx hg2 hdb) pa_nil he2) he) (by decide) (by decide) he hpl, h.hK, se_isX (fun u r => r) ht h.se⟩
theorem x_isXB {x : Str} {T : String} (hm : X.mg "isinstance" = none) (hm2 : X.mg x = none) (ht : TabOk K tab fun D => PySem.W.kitOne K (.ref D) (.type T)) (h : PD X K W Δ e te (.v av fr) g) (hv : bootBuiltins x = some (.type T) := by decide +kernel) (hg2 : Gl X x := by rfl) (hn : x ≠ "__name__" := by decide) (hdb : (x == ("__debug__" : Str)) = false := by decide)
    (hg : Gl X "isinstance" := by rfl)
    (he : starEach [e, .Name x p2] X.env = (false, eval e X.env) :: starEach [.Name x p2] X.env := by rfl) (he2 : starEach [.Name x p2] X.env = (false, eval (.Name x p2) X.env) :: starEach [] X.env := by rfl) (hpl : (backTo pos (starEach [.Name x p2] X.env)).any (·.1) = false := by rfl) :
    PD X K W Δ (.Call (.Name "isinstance" p) [e, .Name x p2] [] pos) (tCB (rIsX K) (tCons te (tCons (tC (.ty T)) tNil))) (.v true true) (gUn (hIsX tab) g) :=
  ⟨pe_callB (by have q := call_isX (X := X); rw [h.hK] at q; exact q) hg hm (by decide +kernel) (pa_cons h.pe (pa_cons (pe_bltn hg2 hm2 hv rfl hn hdb) pa_nil he2) he) (by decide) (by decide) he hpl, h.hK, se_isX (fun u r => r) ht h.se⟩
end

/-! ### isinstance(x, (c, c2, ..)) -/
def rIsXT (K : PySem.W.Frag) (cvs : List Value) : List V → Hp → VK → Prop := fun xs H Q => ∃ (a D t : Addr) (cs : List V) (b : Bool), xs = [.ref a, .ref t] ∧ H a = some (ExH (.ref D) none a) ∧ H t = some (.tup cs) ∧ ExcC K D ∧ (∀ us, Vals cs us → us = cvs) ∧ PySem.W.kitAny K (.ref D) cvs = some b ∧ Q (.bl b) H
theorem call_isXT {X : Cx} {cvs : List Value} : CallR X (.builtin "isinstance") (rIsXT X.K cvs) := by
  intro pins s σ H xs us Q I r h
  obtain ⟨a, D, t, cs, b, rfl, ha, ht, C, hcv, e, q⟩ := h
  cases r with
  | cons rx rr =>
    cases rr with
    | cons rt rr =>
      cases rr
      cases rx
      cases rt
      obtain ⟨⟨oe, vs, ho, hz, hv⟩, _, _⟩ := I.hok a _ ha
      obtain ⟨_, its, rv, ot, hot, hc, n, hdt⟩ := I.hok t _ ht
      have ev := hcv _ rv
      subst ev
      have J : PySem.W.InstAt s.heap a oe D none := by
        obtain ⟨oc, od, oda, osl⟩ := oe
        obtain ⟨h1, h2⟩ := hz
        dsimp only at h1 h2 hv
        subst h1 h2 hv
        exact ⟨ho, rfl, rfl, trivial⟩
      obtain ⟨otc, otd, otdata, otsl⟩ := ot
      dsimp only at hc hdt
      subst hc hdt
      exact PySem.W.kia_tup (PySem.W.handS_kitx_exc C.hg C.hk C.hs C.hd C.ha C.hn C.ht C.hm) I.kIn J hot e (fun z => nomatch z) fun tk => ⟨.bl b, H, I.kept (t' := tk) fun _ _ z => z, rfl, q⟩
/-- class names, evaluated -/
structure ClsA (X : Cx) (es : List Expr) (vs : List V) (cvs : List Value) (tA : TA) : Prop where
  pa : PA X es tA
  run : ∀ σ H Q, Q vs H → tA σ H Q
  un : ∀ us, Vals vs us → us = cvs
theorem ca_nil {X : Cx} : ClsA X [] [] [] tNil := ⟨pa_nil, fun _ _ _ q => q, fun us r => by cases r; rfl⟩
theorem ca_cons {X : Cx} {x : Str} {C : Addr} {p : Pos} {es : List Expr} {vs : List V} {cvs : List Value} {tA : TA} (hm : X.mg x = some (.ref C)) (h : ClsA X es vs cvs tA) (hg : Gl X x := by rfl) (hdb : (x == ("__debug__" : Str)) = false := by decide)
    (he : starEach (.Name x p :: es) X.env = (false, eval (.Name x p) X.env) :: starEach es X.env := by rfl) : ClsA X (.Name x p :: es) (.ref C :: vs) (.ref C :: cvs) (tCons (tC (.ref C)) tA) :=
  ⟨pa_cons (pe_cls hm hg hdb) h.pa he, fun σ H Q q => h.run σ H _ q, fun us r => by
    cases r with
    | cons r1 r2 =>
      cases r1
      rw [h.un _ r2]⟩
theorem kany_cons {K : PySem.W.Frag} {t c : Value} {cs : List Value} {b b' : Bool} (h : PySem.W.kitOne K t c = some b) (h2 : PySem.W.kitAny K t cs = some b') : PySem.W.kitAny K t (c :: cs) = some (b || b') := by
  unfold PySem.W.kitAny
  rw [h]
  cases b with
  | true => rfl
  | false => exact h2
theorem se_isXT {K : PySem.W.Frag} {W : Wt} {Δ : List Kd} {te : TE} {tA : TA} {g : Gd} {av fr : Bool} {vs : List V} {cvs : List Value} {tab : List (Str × Bool)} (hrun : ∀ σ H Q, Q vs H → tA σ H Q) (hlen : vs.length ≤ 100000) (hcv : ∀ us, Vals vs us → us = cvs)
    (ht : TabOk K tab fun D => PySem.W.kitAny K (.ref D) cvs) (ha : SE K W Δ te (.v av fr) g) : SE K W Δ (tCB (rIsXT K cvs) (tCons te (tCons (tTup tA) tNil))) (.v true true) (gUn (hIsX tab) g) := fun f ρ σ H Q R q => by
  refine ha f ρ σ H _ R ?_
  unfold gUn at q
  cases e1 : g ρ with
  | bad => rw [e1] at q; exact q
  | ex z => rw [e1] at q; exact q
  | ok d =>
    rw [e1, bnd_ok] at q
    intro v H1 s1 x1
    unfold hIsX at q
    split at q
    · rename_i cn
      obtain ⟨a, C, rfl, hn, hp⟩ := rp_exn x1
      cases et : isxTab tab cn with
      | none => rw [et] at q; exact q.elim
      | some b =>
        rw [et] at q
        unfold isxTab at et
        obtain ⟨p, ep, eb⟩ := Option.map_eq_some_iff.mp et
        have h1 := List.mem_of_find?_eq_some ep
        have h2 := List.find?_some ep
        have h2 : p.1 = cn := by simpa using h2
        obtain ⟨D, k1, k2, k3⟩ := ht p h1
        rw [h2, hn] at k1
        cases k1
        subst eb
        refine hrun _ _ _ ⟨sz_le hlen, fun t nt => ?_⟩
        exact ⟨a, C, t, vs, p.2, rfl, same_upd nt _ _ hp, upd_same, k2, hcv, k3, q _ _ (s1.trans (same_upd nt)) (.bl _)⟩
    · exact q.elim
theorem x_isXT {X : Cx} {K : PySem.W.Frag} {W : Wt} {Δ : List Kd} {e : Expr} {es : List Expr} {te : TE} {tA : TA} {g : Gd} {av fr : Bool} {pos p p2 : Pos} {k2 : Nat} {vs : List V} {cvs : List Value} {tab : List (Str × Bool)} (hm : X.mg "isinstance" = none) (hc : ClsA X es vs cvs tA) (ht : TabOk K tab fun D => PySem.W.kitAny K (.ref D) cvs)
    (h : PD X K W Δ e te (.v av fr) g) (hlen : vs.length ≤ 100000 := by exact Nat.le_of_ble_eq_true rfl) (hg : Gl X "isinstance" := by rfl)
    (he : starEach [e, .Tuple es k2 p2] X.env = (false, eval e X.env) :: starEach [.Tuple es k2 p2] X.env := by rfl) (he2 : starEach [.Tuple es k2 p2] X.env = (false, eval (.Tuple es k2 p2) X.env) :: starEach [] X.env := by rfl) (hpl : (backTo pos (starEach [.Tuple es k2 p2] X.env)).any (·.1) = false := by rfl) :
    PD X K W Δ (.Call (.Name "isinstance" p) [e, .Tuple es k2 p2] [] pos) (tCB (rIsXT K cvs) (tCons te (tCons (tTup tA) tNil))) (.v true true) (gUn (hIsX tab) g) :=
  ⟨pe_callB (by have q := call_isXT (X := X) (cvs := cvs); rw [h.hK] at q; exact q) hg hm (by decide +kernel) (pa_cons h.pe (pa_cons (pe_tup hc.pa) pa_nil he2) he) (by decide) (by decide) he hpl, h.hK, se_isXT hc.run hlen hc.un ht h.se⟩
theorem kit_yes {K : PySem.W.Frag} {mg : Str → Option Value} {c : Str} {C D : Addr} (T : ExT K mg c C) (e : PySem.W.subIn K (.ref D) (.ref C) = some true) : PySem.W.kitOne K (.ref D) (.ref C) = some true := kit_ref T e fun _ => rfl
theorem kit_no {K : PySem.W.Frag} {mg : Str → Option Value} {c : Str} {C D : Addr} (T : ExT K mg c C) (e : PySem.W.subIn K (.ref D) (.ref C) = some false) (s : PySem.W.subIn K (.ref D) (.ref D) = some true) : PySem.W.kitOne K (.ref D) (.ref C) = some false := kit_ref T e fun ed => by
  subst ed
  rw [s] at e
  cases e
/-! ### a new dict, kept -/
theorem SE.nvD {K : PySem.W.Frag} {W : Wt} {Δ : List Kd} {te : TE} {g : Gd} {fr : Bool} (h : SE K W Δ te (.new .dk fr) g) : SE K W Δ te (.v true fr) g := fun f ρ σ H Q r q =>
  h f ρ σ H Q r <| by
    cases e : g ρ with
    | bad => rw [e] at q; exact q
    | ex z => rw [e] at q; exact q
    | ok d =>
      rw [e] at q
      intro p H' np s x
      obtain ⟨kvs, es, ed, hp, x⟩ := x
      subst ed
      obtain ⟨f1, f2, f3⟩ := r.fresh np
      have ks : ∀ {kvs : List (Key × V)} {es : List (Dt × Dt)}, KvA K (fun a => FM f Δ σ true fr a ∧ a ≠ p) H' kvs es → kvs.map (fun kv => keyD kv.1) = es.map (fun e => e.1) := fun {kvs es} x => by
        induction x with
        | nil => rfl
        | cons h r ih => rw [List.map_cons, List.map_cons, ih]
      have vs : ∀ {kvs : List (Key × V)} {es : List (Dt × Dt)}, KvA K (fun a => FM f Δ σ true fr a ∧ a ≠ p) H' kvs es → RpA K (FM f Δ σ true fr) H' (kvs.map fun kv => kv.2) (es.map fun e => e.2) := fun {kvs es} x => by
        induction x with
        | nil => exact .nil
        | cons h r ih => exact .cons (h.weak fun _ y => y.1) ih
      exact q _ H' s (.dic hp ⟨fun _ => ⟨f1, f2⟩, fun _ => r.g0 p f3⟩ (ks x) (vs x))
theorem PD.nvD {X : Cx} {K : PySem.W.Frag} {W : Wt} {Δ : List Kd} {e : Expr} {te : TE} {g : Gd} {fr : Bool} (h : PD X K W Δ e te (.new .dk fr) g) : PD X K W Δ e te (.v true fr) g := ⟨h.pe, h.hK, h.se.nvD⟩
end Sim
end T_SimXB

section T_FamA
set_option linter.all false
namespace FamA
open PySem Sim
def g_l_mixed : Gs := gSeqS (gSet 2 (gOp hMod (gOp hMul (gOp hAdd (gOp hAdd (gOp hMod (gVar 0) (gC (.int (2147483629)))) (gOp hMul (gC (.int (7919))) (gVar 1))) (gC (.int (11)))) (gC (.int (48271)))) (gC (.int (2147483647))))) (gSeqS (gSet 2 (gOp hMod (gOp hAdd (gOp hMod (gOp hMul (gVar 2) (gVar 2)) (gC (.int (2147483629)))) (gOp hMul (gC (.int (104729))) (gVar 1))) (gC (.int (2147483629))))) (gRet (gOp hMod (gOp hMul (gVar 2) (gC (.int (39373)))) (gC (.int (2147483647))))))
def f_l_mixed : List Dt → O Dt := fnN 3 g_l_mixed
def g_l_numbers_L1 : Gs := gSeqS (gSet 6 (gOp hAdd (gOp hMul (gVar 6) (gC (.int (2147483647)))) (gCallN 2 f_l_mixed (gCons (gVar 0) (gCons (gOp hAdd (gOp hMul (gC (.int (8))) (gVar 5)) (gVar 7)) (gNil)))))) (gSet 7 (gOp hAdd (gVar 7) (gC (.int (1)))))
def g_l_numbers_T1 : List Dt → O Bool := gTest (gOp hLt (gOp hMul (gVar 7) (gC (.int (30)))) (gOp hAdd (gUn hBits (gVar 2)) (gC (.int (8)))))
def g_l_numbers_L2 : Gs := gSeqS (gSet 6 (gVar 4)) (gSeqS (gIfS (gTest (gOp hGt (gVar 4) (gC (.int (0))))) (gSet 4 (gOp hDiv (gVar 4) (gVar 2))) (gSeqS (gSet 6 (gC (.int (0)))) (gSeqS (gSet 7 (gC (.int (0)))) (gWhile g_l_numbers_T1 g_l_numbers_L1 100)))) (gApp 3 (gOp hMod (gVar 6) (gVar 2))))
def g_l_numbers : Gs := gSeqS (gSet 3 (gLst (gNil))) (gSeqS (gSet 4 (gOp hSub (gVar 0) (gOp hPow (gC (.int (10))) (gC (.int (18)))))) (gSeqS (gFor (gRng1 (gCons (gVar 1) (gNil))) (tgN 5) g_l_numbers_L2) (gRet (gVar 3))))
def f_l_numbers : List Dt → O Dt := fnL 8 g_l_numbers
def g_l_ends : Gs := gSeqS (gSet 4 (gOp hMod (gVar 2) (gVar 0))) (gSeqS (gIfS (gTest (gOp hEq (gVar 1) (gC (.int (0))))) (gRet (gTup (gCons (gVar 4) (gCons (gOp hMod (gVar 3) (gVar 0)) (gNil))))) (gNext)) (gSeqS (gIfS (gTest (gOp hEq (gVar 1) (gC (.int (1))))) (gRet (gTup (gCons (gOp hMod (gVar 2) (gCB hMin2 (gCons (gVar 0) (gCons (gC (.int (3))) (gNil))))) (gCons (gOp hMod (gVar 3) (gCB hMin2 (gCons (gVar 0) (gCons (gC (.int (2))) (gNil))))) (gNil))))) (gNext)) (gSeqS (gIfS (gTest (gOp hEq (gVar 1) (gC (.int (2))))) (gRet (gTup (gCons (gVar 4) (gCons (gOp hMod (gOp hAdd (gOp hAdd (gVar 4) (gC (.int (1)))) (gOp hDiv (gOp hMod (gVar 3) (gC (.int (5)))) (gC (.int (4))))) (gVar 0)) (gNil))))) (gNext)) (gRet (gTup (gCons (gVar 4) (gCons (gOp hMod (gOp hAdd (gVar 4) (gOp hMul (gC (.int (2))) (gOp hMod (gVar 3) (gVar 0)))) (gVar 0)) (gNil))))))))
def f_l_ends : List Dt → O Dt := fnN 5 g_l_ends
def g_l_record_L1 : Gs := gSeqS (gAsg (gCallN 4 f_l_ends (gCons (gVar 2) (gCons (gOp hMod (gOp hIx (gVar 0) (gC (.int (3)))) (gC (.int (4)))) (gCons (gOp hIx (gVar 0) (gOp hAdd (gC (.int (4))) (gOp hMul (gC (.int (3))) (gVar 7)))) (gCons (gOp hIx (gVar 0) (gOp hAdd (gC (.int (5))) (gOp hMul (gC (.int (3))) (gVar 7)))) (gNil)))))) (tgT (tgCons (tgN 8) (tgCons (tgN 9) (tgNil))))) (gSeqS (gApp 6 (gTup (gCons (gVar 5) (gCons (gCB hMin2 (gCons (gVar 8) (gCons (gVar 9) (gNil)))) (gCons (gCB hMax2 (gCons (gVar 8) (gCons (gVar 9) (gNil)))) (gNil)))))) (gSet 5 (gOp hAdd (gOp hAdd (gVar 5) (gC (.int (1)))) (gOp hMod (gOp hIx (gVar 0) (gOp hAdd (gC (.int (6))) (gOp hMul (gC (.int (3))) (gVar 7)))) (gVar 4)))))
def g_l_record : Gs := gSeqS (gSet 2 (gOp hAdd (gC (.int (1))) (gOp hMod (gOp hIx (gVar 0) (gC (.int (0)))) (gC (.int (6)))))) (gSeqS (gIfS (gTest (gOp hEq (gOp hMod (gOp hDiv (gOp hIx (gVar 0) (gC (.int (0)))) (gC (.int (6)))) (gC (.int (8)))) (gC (.int (1))))) (gSet 2 (gOp hAdd (gC (.int (7))) (gOp hMod (gOp hDiv (gOp hIx (gVar 0) (gC (.int (0)))) (gC (.int (48)))) (gC (.int (4)))))) (gNext)) (gSeqS (gSet 3 (gOp hMod (gOp hIx (gVar 0) (gC (.int (1)))) (gC (.int (13))))) (gSeqS (gIfS (gTest (gOp hEq (gOp hMod (gOp hDiv (gOp hIx (gVar 0) (gC (.int (1)))) (gC (.int (13)))) (gC (.int (8)))) (gC (.int (1))))) (gSet 3 (gOp hAdd (gC (.int (13))) (gOp hMod (gOp hDiv (gOp hIx (gVar 0) (gC (.int (1)))) (gC (.int (104)))) (gC (.int (48)))))) (gNext)) (gSeqS (gSet 4 (gOp hIx (gLst (gCons (gC (.int (1))) (gCons (gC (.int (4))) (gCons (gOp hPow (gC (.int (10))) (gC (.int (28)))) (gNil))))) (gOp hMod (gOp hIx (gVar 0) (gC (.int (2)))) (gC (.int (3)))))) (gSeqS (gSet 5 (gOp hIx (gLst (gCons (gC (.int (0))) (gCons (gOp hMod (gOp hDiv (gOp hIx (gVar 0) (gC (.int (2)))) (gC (.int (12)))) (gC (.int (100)))) (gCons (gOp hMod (gOp hIx (gVar 0) (gC (.int (3)))) (gOp hPow (gC (.int (10))) (gC (.int (29))))) (gNil))))) (gOp hMod (gOp hDiv (gOp hIx (gVar 0) (gC (.int (2)))) (gC (.int (3)))) (gC (.int (3)))))) (gSeqS (gSet 6 (gLst (gNil))) (gSeqS (gFor (gRng1 (gCons (gCB hMin3 (gCons (gVar 3) (gCons (gVar 1) (gCons (gOp hDiv (gOp hSub (gCB hLen (gCons (gVar 0) (gNil))) (gC (.int (4)))) (gC (.int (3)))) (gNil))))) (gNil))) (tgN 7) g_l_record_L1) (gRet (gTup (gCons (gVar 2) (gCons (gVar 6) (gNil))))))))))))
def f_l_record : List Dt → O Dt := fnN 10 g_l_record
end FamA
end T_FamA

section T_FamAP
set_option linter.all false
set_option maxRecDepth 100000
namespace FamA
open PySem Sim

abbrev B30 : Int := 1000000000000000000000000000000
theorem mixed_ok (cell k : Int) : ∃ z, f_l_mixed [.int cell, .int k] = .ok (.int z) ∧ 0 ≤ z ∧ z < 2147483647 := by
  unfold f_l_mixed fnN g_l_mixed
  simp (disch := omega) only [bnd_ok, gVar_def, gC_def, gOp_def, gUn_def, gNil_def, gCons_def, gIf_def, gTest_def, gNot_def, gAnd_def, gOr_def, gAndV_def, gOrV_def, gNotV_def, gCB_def, asB_b, hAdd_i, hSub_i, hLt_i, hLe_i, hGt_i, hGe_i, hMul_r, hMul_l, hMod_i, hDiv_s, hBand_i, hShr_i, hPow_10_18, hPow_10_27, hPow_10_28, hPow_10_29, hPow_10_30, hEq_i, hNe_i, hLen_l, hLen_t, hMin2_i, hMax2_i, hMin3_i, hInt1_b, hInt1_i, hBits_i, hListOf_l, hListOf_t, hTupOf_l, hTupOf_t, gSeqS_def, gSet_def, gRet_def, gIfS_def, gNext_def, gTup_def, gLst_def, List.getElem?_cons_zero, List.getElem?_cons_succ, List.set_cons_zero, List.set_cons_succ, List.length_cons, List.length_nil, Nat.zero_add, Nat.reduceAdd, Nat.reduceLeDiff, Nat.reduceSub, Nat.reduceMul, if_true, if_false, Bool.false_eq_true, List.replicate_succ, List.replicate_zero, List.cons_append, List.nil_append, tgN, tgT, tgCons, tgNil, Int.reducePow, Int.reduceAdd, Int.reduceSub, Int.reduceMul, decide_true, decide_false, Bool.not_true, Bool.not_false, gChain_def, hIsa_int, hIsa_intb, hIsa_list, hIsa_tuple, gDrop_def]
  exact ⟨_, rfl, by omega, by omega⟩
theorem ends_ok (n kind one other : Int) (hn : 1 ≤ n) : ∃ a b, f_l_ends [.int n, .int kind, .int one, .int other] = .ok (.tuple [.int a, .int b]) ∧ 0 ≤ a ∧ a < n ∧ 0 ≤ b ∧ b < n := by
  unfold f_l_ends fnN g_l_ends
  have m0 := fun x : Int => Int.emod_nonneg x (show n ≠ 0 by omega)
  have m1 := fun x : Int => Int.emod_lt_of_pos x (show 0 < n by omega)
  by_cases h0 : kind = 0
  · subst h0
    simp (disch := omega) only [bnd_ok, gVar_def, gC_def, gOp_def, gUn_def, gNil_def, gCons_def, gIf_def, gTest_def, gNot_def, gAnd_def, gOr_def, gAndV_def, gOrV_def, gNotV_def, gCB_def, asB_b, hAdd_i, hSub_i, hLt_i, hLe_i, hGt_i, hGe_i, hMul_r, hMul_l, hMod_i, hDiv_s, hBand_i, hShr_i, hPow_10_18, hPow_10_27, hPow_10_28, hPow_10_29, hPow_10_30, hEq_i, hNe_i, hLen_l, hLen_t, hMin2_i, hMax2_i, hMin3_i, hInt1_b, hInt1_i, hBits_i, hListOf_l, hListOf_t, hTupOf_l, hTupOf_t, gSeqS_def, gSet_def, gRet_def, gIfS_def, gNext_def, gTup_def, gLst_def, List.getElem?_cons_zero, List.getElem?_cons_succ, List.set_cons_zero, List.set_cons_succ, List.length_cons, List.length_nil, Nat.zero_add, Nat.reduceAdd, Nat.reduceLeDiff, Nat.reduceSub, Nat.reduceMul, if_true, if_false, Bool.false_eq_true, List.replicate_succ, List.replicate_zero, List.cons_append, List.nil_append, tgN, tgT, tgCons, tgNil, Int.reducePow, Int.reduceAdd, Int.reduceSub, Int.reduceMul, decide_true, decide_false, Bool.not_true, Bool.not_false, gChain_def, hIsa_int, hIsa_intb, hIsa_list, hIsa_tuple, gDrop_def, beq_self_eq_true]
    exact ⟨_, _, rfl, m0 _, m1 _, m0 _, m1 _⟩
  · have e0 : (kind == 0) = false := beq_eq_false_iff_ne.mpr h0
    by_cases h1 : kind = 1
    · subst h1
      have q3 : 0 < (if (3 : Int) < n then 3 else n) := by split <;> omega
      have q2 : 0 < (if (2 : Int) < n then 2 else n) := by split <;> omega
      have q3' : (if (3 : Int) < n then 3 else n) ≤ n := by split <;> omega
      have q2' : (if (2 : Int) < n then 2 else n) ≤ n := by split <;> omega
      have p0 := Int.emod_nonneg one (show (if (3 : Int) < n then 3 else n) ≠ 0 by omega)
      have p1 := Int.emod_lt_of_pos one q3
      have p2 := Int.emod_nonneg other (show (if (2 : Int) < n then 2 else n) ≠ 0 by omega)
      have p3 := Int.emod_lt_of_pos other q2
      simp (disch := first | assumption | omega) only [bnd_ok, gVar_def, gC_def, gOp_def, gUn_def, gNil_def, gCons_def, gIf_def, gTest_def, gNot_def, gAnd_def, gOr_def, gAndV_def, gOrV_def, gNotV_def, gCB_def, asB_b, hAdd_i, hSub_i, hLt_i, hLe_i, hGt_i, hGe_i, hMul_r, hMul_l, hMod_i, hDiv_s, hBand_i, hShr_i, hPow_10_18, hPow_10_27, hPow_10_28, hPow_10_29, hPow_10_30, hEq_i, hNe_i, hLen_l, hLen_t, hMin2_i, hMax2_i, hMin3_i, hInt1_b, hInt1_i, hBits_i, hListOf_l, hListOf_t, hTupOf_l, hTupOf_t, gSeqS_def, gSet_def, gRet_def, gIfS_def, gNext_def, gTup_def, gLst_def, List.getElem?_cons_zero, List.getElem?_cons_succ, List.set_cons_zero, List.set_cons_succ, List.length_cons, List.length_nil, Nat.zero_add, Nat.reduceAdd, Nat.reduceLeDiff, Nat.reduceSub, Nat.reduceMul, if_true, if_false, Bool.false_eq_true, List.replicate_succ, List.replicate_zero, List.cons_append, List.nil_append, tgN, tgT, tgCons, tgNil, Int.reducePow, Int.reduceAdd, Int.reduceSub, Int.reduceMul, decide_true, decide_false, Bool.not_true, Bool.not_false, gChain_def, hIsa_int, hIsa_intb, hIsa_list, hIsa_tuple, gDrop_def, beq_self_eq_true, e0]
      exact ⟨_, _, rfl, p0, Int.lt_of_lt_of_le p1 q3', p2, Int.lt_of_lt_of_le p3 q2'⟩
    · have e1 : (kind == 1) = false := beq_eq_false_iff_ne.mpr h1
      by_cases h2 : kind = 2
      · subst h2
        simp (disch := omega) only [bnd_ok, gVar_def, gC_def, gOp_def, gUn_def, gNil_def, gCons_def, gIf_def, gTest_def, gNot_def, gAnd_def, gOr_def, gAndV_def, gOrV_def, gNotV_def, gCB_def, asB_b, hAdd_i, hSub_i, hLt_i, hLe_i, hGt_i, hGe_i, hMul_r, hMul_l, hMod_i, hDiv_s, hBand_i, hShr_i, hPow_10_18, hPow_10_27, hPow_10_28, hPow_10_29, hPow_10_30, hEq_i, hNe_i, hLen_l, hLen_t, hMin2_i, hMax2_i, hMin3_i, hInt1_b, hInt1_i, hBits_i, hListOf_l, hListOf_t, hTupOf_l, hTupOf_t, gSeqS_def, gSet_def, gRet_def, gIfS_def, gNext_def, gTup_def, gLst_def, List.getElem?_cons_zero, List.getElem?_cons_succ, List.set_cons_zero, List.set_cons_succ, List.length_cons, List.length_nil, Nat.zero_add, Nat.reduceAdd, Nat.reduceLeDiff, Nat.reduceSub, Nat.reduceMul, if_true, if_false, Bool.false_eq_true, List.replicate_succ, List.replicate_zero, List.cons_append, List.nil_append, tgN, tgT, tgCons, tgNil, Int.reducePow, Int.reduceAdd, Int.reduceSub, Int.reduceMul, decide_true, decide_false, Bool.not_true, Bool.not_false, gChain_def, hIsa_int, hIsa_intb, hIsa_list, hIsa_tuple, gDrop_def, beq_self_eq_true, e0, e1]
        exact ⟨_, _, rfl, m0 _, m1 _, m0 _, m1 _⟩
      · have e2 : (kind == 2) = false := beq_eq_false_iff_ne.mpr h2
        simp (disch := omega) only [bnd_ok, gVar_def, gC_def, gOp_def, gUn_def, gNil_def, gCons_def, gIf_def, gTest_def, gNot_def, gAnd_def, gOr_def, gAndV_def, gOrV_def, gNotV_def, gCB_def, asB_b, hAdd_i, hSub_i, hLt_i, hLe_i, hGt_i, hGe_i, hMul_r, hMul_l, hMod_i, hDiv_s, hBand_i, hShr_i, hPow_10_18, hPow_10_27, hPow_10_28, hPow_10_29, hPow_10_30, hEq_i, hNe_i, hLen_l, hLen_t, hMin2_i, hMax2_i, hMin3_i, hInt1_b, hInt1_i, hBits_i, hListOf_l, hListOf_t, hTupOf_l, hTupOf_t, gSeqS_def, gSet_def, gRet_def, gIfS_def, gNext_def, gTup_def, gLst_def, List.getElem?_cons_zero, List.getElem?_cons_succ, List.set_cons_zero, List.set_cons_succ, List.length_cons, List.length_nil, Nat.zero_add, Nat.reduceAdd, Nat.reduceLeDiff, Nat.reduceSub, Nat.reduceMul, if_true, if_false, Bool.false_eq_true, List.replicate_succ, List.replicate_zero, List.cons_append, List.nil_append, tgN, tgT, tgCons, tgNil, Int.reducePow, Int.reduceAdd, Int.reduceSub, Int.reduceMul, decide_true, decide_false, Bool.not_true, Bool.not_false, gChain_def, hIsa_int, hIsa_intb, hIsa_list, hIsa_tuple, gDrop_def, e0, e1, e2]
        exact ⟨_, _, rfl, m0 _, m1 _, m0 _, m1 _⟩

theorem bits30 : Builtin.Int.intBits 1000000000000000000000000000000 = 100 := by decide +kernel
def wB : Gs := gSeqS (gSet 6 (gOp hAdd (gOp hMul (gVar 6) (gC (.int (2147483647)))) (gCallN 2 f_l_mixed (gCons (gVar 0) (gCons (gOp hAdd (gOp hMul (gC (.int (8))) (gVar 5)) (gVar 7)) (gNil)))))) (gSet 7 (gOp hAdd (gVar 7) (gC (.int (1)))))
def wT : List Dt → O Bool := gTest (gOp hLt (gOp hMul (gVar 7) (gC (.int (30)))) (gOp hAdd (gUn hBits (gVar 2)) (gC (.int (8)))))
theorem wB_ok (c k x t : Int) (a f l : Dt) : ∃ y, wB [.int c, a, .int B30, f, l, .int k, .int x, .int t] = .ok (.nx [.int c, a, .int B30, f, l, .int k, .int y, .int (t + 1)]) := by
  obtain ⟨z, hz, _, _⟩ := mixed_ok c (8 * k + t)
  unfold wB
  have h1 : gCallN 2 f_l_mixed (gCons (gVar 0) (gCons (gOp hAdd (gOp hMul (gC (.int (8))) (gVar 5)) (gVar 7)) (gNil))) [.int c, a, .int B30, f, l, .int k, .int x, .int t] = .ok (.int z) := by
    refine callN_ok (ds := [.int c, .int (8 * k + t)]) ?_ rfl hz
    simp (disch := omega) only [bnd_ok, gVar_def, gC_def, gOp_def, gUn_def, gNil_def, gCons_def, gIf_def, gTest_def, gNot_def, gAnd_def, gOr_def, gAndV_def, gOrV_def, gNotV_def, gCB_def, asB_b, hAdd_i, hSub_i, hLt_i, hLe_i, hGt_i, hGe_i, hMul_r, hMul_l, hMod_i, hDiv_s, hBand_i, hShr_i, hPow_10_18, hPow_10_27, hPow_10_28, hPow_10_29, hPow_10_30, hEq_i, hNe_i, hLen_l, hLen_t, hMin2_i, hMax2_i, hMin3_i, hInt1_b, hInt1_i, hBits_i, hListOf_l, hListOf_t, hTupOf_l, hTupOf_t, gSeqS_def, gSet_def, gRet_def, gIfS_def, gNext_def, gTup_def, gLst_def, List.getElem?_cons_zero, List.getElem?_cons_succ, List.set_cons_zero, List.set_cons_succ, List.length_cons, List.length_nil, Nat.zero_add, Nat.reduceAdd, Nat.reduceLeDiff, Nat.reduceSub, Nat.reduceMul, if_true, if_false, Bool.false_eq_true, List.replicate_succ, List.replicate_zero, List.cons_append, List.nil_append, tgN, tgT, tgCons, tgNil, Int.reducePow, Int.reduceAdd, Int.reduceSub, Int.reduceMul, decide_true, decide_false, Bool.not_true, Bool.not_false, gChain_def, hIsa_int, hIsa_intb, hIsa_list, hIsa_tuple, gDrop_def]
  simp (disch := omega) only [bnd_ok, gVar_def, gC_def, gOp_def, gUn_def, gNil_def, gCons_def, gIf_def, gTest_def, gNot_def, gAnd_def, gOr_def, gAndV_def, gOrV_def, gNotV_def, gCB_def, asB_b, hAdd_i, hSub_i, hLt_i, hLe_i, hGt_i, hGe_i, hMul_r, hMul_l, hMod_i, hDiv_s, hBand_i, hShr_i, hPow_10_18, hPow_10_27, hPow_10_28, hPow_10_29, hPow_10_30, hEq_i, hNe_i, hLen_l, hLen_t, hMin2_i, hMax2_i, hMin3_i, hInt1_b, hInt1_i, hBits_i, hListOf_l, hListOf_t, hTupOf_l, hTupOf_t, gSeqS_def, gSet_def, gRet_def, gIfS_def, gNext_def, gTup_def, gLst_def, List.getElem?_cons_zero, List.getElem?_cons_succ, List.set_cons_zero, List.set_cons_succ, List.length_cons, List.length_nil, Nat.zero_add, Nat.reduceAdd, Nat.reduceLeDiff, Nat.reduceSub, Nat.reduceMul, if_true, if_false, Bool.false_eq_true, List.replicate_succ, List.replicate_zero, List.cons_append, List.nil_append, tgN, tgT, tgCons, tgNil, Int.reducePow, Int.reduceAdd, Int.reduceSub, Int.reduceMul, decide_true, decide_false, Bool.not_true, Bool.not_false, gChain_def, hIsa_int, hIsa_intb, hIsa_list, hIsa_tuple, gDrop_def, h1]
  exact ⟨_, rfl⟩
theorem wT_ok (c k x t : Int) (a f l : Dt) : wT [.int c, a, .int B30, f, l, .int k, .int x, .int t] = .ok (decide (t * 30 < 108)) := by
  unfold wT
  simp (disch := omega) only [bnd_ok, gVar_def, gC_def, gOp_def, gUn_def, gNil_def, gCons_def, gIf_def, gTest_def, gNot_def, gAnd_def, gOr_def, gAndV_def, gOrV_def, gNotV_def, gCB_def, asB_b, hAdd_i, hSub_i, hLt_i, hLe_i, hGt_i, hGe_i, hMul_r, hMul_l, hMod_i, hDiv_s, hBand_i, hShr_i, hPow_10_18, hPow_10_27, hPow_10_28, hPow_10_29, hPow_10_30, hEq_i, hNe_i, hLen_l, hLen_t, hMin2_i, hMax2_i, hMin3_i, hInt1_b, hInt1_i, hBits_i, hListOf_l, hListOf_t, hTupOf_l, hTupOf_t, gSeqS_def, gSet_def, gRet_def, gIfS_def, gNext_def, gTup_def, gLst_def, List.getElem?_cons_zero, List.getElem?_cons_succ, List.set_cons_zero, List.set_cons_succ, List.length_cons, List.length_nil, Nat.zero_add, Nat.reduceAdd, Nat.reduceLeDiff, Nat.reduceSub, Nat.reduceMul, if_true, if_false, Bool.false_eq_true, List.replicate_succ, List.replicate_zero, List.cons_append, List.nil_append, tgN, tgT, tgCons, tgNil, Int.reducePow, Int.reduceAdd, Int.reduceSub, Int.reduceMul, decide_true, decide_false, Bool.not_true, Bool.not_false, gChain_def, hIsa_int, hIsa_intb, hIsa_list, hIsa_tuple, gDrop_def, bits30]
  rfl
theorem wh_ok (c k : Int) (a f l : Dt) : ∃ y, gWhile wT wB 100 [.int c, a, .int B30, f, l, .int k, .int 0, .int 0] = .ok (.nx [.int c, a, .int B30, f, l, .int k, .int y, .int 4]) := by
  obtain ⟨y1, h1⟩ := wB_ok c k 0 0 a f l
  obtain ⟨y2, h2⟩ := wB_ok c k y1 1 a f l
  obtain ⟨y3, h3⟩ := wB_ok c k y2 2 a f l
  obtain ⟨y4, h4⟩ := wB_ok c k y3 3 a f l
  refine ⟨y4, ?_⟩
  rw [while_t (n := 99) (wT_ok c k 0 0 a f l) h1]
  show gWhile wT wB 99 [.int c, a, .int B30, f, l, .int k, .int y1, .int 1] = _
  rw [while_t (n := 98) (wT_ok c k y1 1 a f l) h2]
  show gWhile wT wB 98 [.int c, a, .int B30, f, l, .int k, .int y2, .int 2] = _
  rw [while_t (n := 97) (wT_ok c k y2 2 a f l) h3]
  show gWhile wT wB 97 [.int c, a, .int B30, f, l, .int k, .int y3, .int 3] = _
  rw [while_t (n := 96) (wT_ok c k y3 3 a f l) h4]
  exact while_f (wT_ok c k y4 4 a f l)
theorem numbers_ok (cell many : Int) (h0 : 0 ≤ many) (h1 : many ≤ 1000) : ∃ xs : List Int, f_l_numbers [.int cell, .int many, .int B30] = .ok (.list (xs.map .int)) ∧ xs.length = many.toNat ∧ ∀ x ∈ xs, 0 ≤ x ∧ x < B30 := by
  obtain ⟨n, rfl⟩ : ∃ n : Nat, many = n := ⟨many.toNat, by omega⟩
  obtain ⟨ρ', hf, xs, l, d5, d6, d7, rfl, hl, hx⟩ := forE_ix (fun (k : Nat) => PyData.int (k : Int)) (h := tgN 5)
    (b := gSeqS (gSet 6 (gVar 4)) (gSeqS (gIfS (gTest (gOp hGt (gVar 4) (gC (.int (0))))) (gSet 4 (gOp hDiv (gVar 4) (gVar 2))) (gSeqS (gSet 6 (gC (.int (0)))) (gSeqS (gSet 7 (gC (.int (0)))) (gWhile wT wB 100)))) (gApp 3 (gOp hMod (gVar 6) (gVar 2)))))
    (List.range n) (fun i ρ => ∃ (xs : List Int) (l : Int) (d5 d6 d7 : Dt), ρ = [.int cell, .int n, .int B30, .list (xs.map .int), .int l, d5, d6, d7] ∧ xs.length = i ∧ ∀ x ∈ xs, 0 ≤ x ∧ x < B30)
    (ρ := [.int cell, .int n, .int B30, .list [], .int (cell - 1000000000000000000), .none, .none, .none]) ⟨[], _, _, _, _, rfl, rfl, by simp⟩ (by
      rintro i ρ hi ⟨xs, l, d5, d6, d7, rfl, hl, hx⟩
      rw [List.getElem_range]
      rw [List.length_range] at hi
      have app : ∀ (l x : Int) (d7 : Dt), gApp 3 (gOp hMod (gVar 6) (gVar 2)) [.int cell, .int n, .int B30, .list (xs.map .int), .int l, .int i, .int x, d7] = .ok (.nx [.int cell, .int n, .int B30, .list ((xs ++ [x % B30]).map .int), .int l, .int i, .int x, d7]) := fun l x d7 => by
        refine (gApp_l (ds := xs.map .int) (d := .int (x % B30)) rfl ?_ (by rw [List.length_map]; omega)).trans ?_
        · simp (disch := first | omega | decide) only [bnd_ok, gVar_def, gC_def, gOp_def, gUn_def, gNil_def, gCons_def, gIf_def, gTest_def, gNot_def, gAnd_def, gOr_def, gAndV_def, gOrV_def, gNotV_def, gCB_def, asB_b, hAdd_i, hSub_i, hLt_i, hLe_i, hGt_i, hGe_i, hMul_r, hMul_l, hMod_i, hDiv_s, hBand_i, hShr_i, hPow_10_18, hPow_10_27, hPow_10_28, hPow_10_29, hPow_10_30, hEq_i, hNe_i, hLen_l, hLen_t, hMin2_i, hMax2_i, hMin3_i, hInt1_b, hInt1_i, hBits_i, hListOf_l, hListOf_t, hTupOf_l, hTupOf_t, gSeqS_def, gSet_def, gRet_def, gIfS_def, gNext_def, gTup_def, gLst_def, List.getElem?_cons_zero, List.getElem?_cons_succ, List.set_cons_zero, List.set_cons_succ, List.length_cons, List.length_nil, Nat.zero_add, Nat.reduceAdd, Nat.reduceLeDiff, Nat.reduceSub, Nat.reduceMul, if_true, if_false, Bool.false_eq_true, List.replicate_succ, List.replicate_zero, List.cons_append, List.nil_append, tgN, tgT, tgCons, tgNil, Int.reducePow, Int.reduceAdd, Int.reduceSub, Int.reduceMul, decide_true, decide_false, Bool.not_true, Bool.not_false, gChain_def, hIsa_int, hIsa_intb, hIsa_list, hIsa_tuple, gDrop_def]
        · rw [map_snoc]; rfl
      have fin : ∀ (x : Int), ∀ y ∈ xs ++ [x % B30], 0 ≤ y ∧ y < B30 := fun x y hy => by
        rcases List.mem_append.mp hy with h | h
        · exact hx y h
        · have := List.mem_singleton.mp h
          subst this
          unfold B30
          constructor <;> omega
      by_cases hp : 0 < l
      · refine ⟨_, _, rfl, .inl ?_, xs ++ [l % B30], l / B30, .int i, .int l, d7, rfl, by rw [List.length_append, hl]; rfl, fin l⟩
        have e : decide (0 < l) = true := decide_eq_true hp
        simp (disch := first | omega | decide) only [bnd_ok, gVar_def, gC_def, gOp_def, gUn_def, gNil_def, gCons_def, gIf_def, gTest_def, gNot_def, gAnd_def, gOr_def, gAndV_def, gOrV_def, gNotV_def, gCB_def, asB_b, hAdd_i, hSub_i, hLt_i, hLe_i, hGt_i, hGe_i, hMul_r, hMul_l, hMod_i, hDiv_s, hBand_i, hShr_i, hPow_10_18, hPow_10_27, hPow_10_28, hPow_10_29, hPow_10_30, hEq_i, hNe_i, hLen_l, hLen_t, hMin2_i, hMax2_i, hMin3_i, hInt1_b, hInt1_i, hBits_i, hListOf_l, hListOf_t, hTupOf_l, hTupOf_t, gSeqS_def, gSet_def, gRet_def, gIfS_def, gNext_def, gTup_def, gLst_def, List.getElem?_cons_zero, List.getElem?_cons_succ, List.set_cons_zero, List.set_cons_succ, List.length_cons, List.length_nil, Nat.zero_add, Nat.reduceAdd, Nat.reduceLeDiff, Nat.reduceSub, Nat.reduceMul, if_true, if_false, Bool.false_eq_true, List.replicate_succ, List.replicate_zero, List.cons_append, List.nil_append, tgN, tgT, tgCons, tgNil, Int.reducePow, Int.reduceAdd, Int.reduceSub, Int.reduceMul, decide_true, decide_false, Bool.not_true, Bool.not_false, gChain_def, hIsa_int, hIsa_intb, hIsa_list, hIsa_tuple, gDrop_def, e, app]
      · obtain ⟨y, hy⟩ := wh_ok cell i (.int n) (.list (xs.map .int)) (.int l)
        refine ⟨_, _, rfl, .inl ?_, xs ++ [y % B30], l, .int i, .int y, .int 4, rfl, by rw [List.length_append, hl]; rfl, fin y⟩
        have e : decide (0 < l) = false := decide_eq_false hp
        simp (disch := first | omega | decide) only [bnd_ok, gVar_def, gC_def, gOp_def, gUn_def, gNil_def, gCons_def, gIf_def, gTest_def, gNot_def, gAnd_def, gOr_def, gAndV_def, gOrV_def, gNotV_def, gCB_def, asB_b, hAdd_i, hSub_i, hLt_i, hLe_i, hGt_i, hGe_i, hMul_r, hMul_l, hMod_i, hDiv_s, hBand_i, hShr_i, hPow_10_18, hPow_10_27, hPow_10_28, hPow_10_29, hPow_10_30, hEq_i, hNe_i, hLen_l, hLen_t, hMin2_i, hMax2_i, hMin3_i, hInt1_b, hInt1_i, hBits_i, hListOf_l, hListOf_t, hTupOf_l, hTupOf_t, gSeqS_def, gSet_def, gRet_def, gIfS_def, gNext_def, gTup_def, gLst_def, List.getElem?_cons_zero, List.getElem?_cons_succ, List.set_cons_zero, List.set_cons_succ, List.length_cons, List.length_nil, Nat.zero_add, Nat.reduceAdd, Nat.reduceLeDiff, Nat.reduceSub, Nat.reduceMul, if_true, if_false, Bool.false_eq_true, List.replicate_succ, List.replicate_zero, List.cons_append, List.nil_append, tgN, tgT, tgCons, tgNil, Int.reducePow, Int.reduceAdd, Int.reduceSub, Int.reduceMul, decide_true, decide_false, Bool.not_true, Bool.not_false, gChain_def, hIsa_int, hIsa_intb, hIsa_list, hIsa_tuple, gDrop_def, e, hy, app])
  refine ⟨xs, ?_, by rw [hl, List.length_range]; omega, hx⟩
  refine fnL_rt ?_
  show g_l_numbers [.int cell, .int n, .int B30, .none, .none, .none, .none, .none] = _
  unfold g_l_numbers
  have e1 : gSet 3 (gLst gNil) [.int cell, .int n, .int B30, .none, .none, .none, .none, .none] = .ok (.nx [.int cell, .int n, .int B30, .list [], .none, .none, .none, .none]) := by
    simp (disch := first | omega | decide) only [bnd_ok, gVar_def, gC_def, gOp_def, gUn_def, gNil_def, gCons_def, gIf_def, gTest_def, gNot_def, gAnd_def, gOr_def, gAndV_def, gOrV_def, gNotV_def, gCB_def, asB_b, hAdd_i, hSub_i, hLt_i, hLe_i, hGt_i, hGe_i, hMul_r, hMul_l, hMod_i, hDiv_s, hBand_i, hShr_i, hPow_10_18, hPow_10_27, hPow_10_28, hPow_10_29, hPow_10_30, hEq_i, hNe_i, hLen_l, hLen_t, hMin2_i, hMax2_i, hMin3_i, hInt1_b, hInt1_i, hBits_i, hListOf_l, hListOf_t, hTupOf_l, hTupOf_t, gSeqS_def, gSet_def, gRet_def, gIfS_def, gNext_def, gTup_def, gLst_def, List.getElem?_cons_zero, List.getElem?_cons_succ, List.set_cons_zero, List.set_cons_succ, List.length_cons, List.length_nil, Nat.zero_add, Nat.reduceAdd, Nat.reduceLeDiff, Nat.reduceSub, Nat.reduceMul, if_true, if_false, Bool.false_eq_true, List.replicate_succ, List.replicate_zero, List.cons_append, List.nil_append, tgN, tgT, tgCons, tgNil, Int.reducePow, Int.reduceAdd, Int.reduceSub, Int.reduceMul, decide_true, decide_false, Bool.not_true, Bool.not_false, gChain_def, hIsa_int, hIsa_intb, hIsa_list, hIsa_tuple, gDrop_def, Nat.zero_le]
  rw [seq_nx e1]
  have e2 : gSet 4 (gOp hSub (gVar 0) (gOp hPow (gC (.int 10)) (gC (.int 18)))) [.int cell, .int n, .int B30, .list [], .none, .none, .none, .none] = .ok (.nx [.int cell, .int n, .int B30, .list [], .int (cell - 1000000000000000000), .none, .none, .none]) := by
    simp (disch := first | omega | decide) only [bnd_ok, gVar_def, gC_def, gOp_def, gUn_def, gNil_def, gCons_def, gIf_def, gTest_def, gNot_def, gAnd_def, gOr_def, gAndV_def, gOrV_def, gNotV_def, gCB_def, asB_b, hAdd_i, hSub_i, hLt_i, hLe_i, hGt_i, hGe_i, hMul_r, hMul_l, hMod_i, hDiv_s, hBand_i, hShr_i, hPow_10_18, hPow_10_27, hPow_10_28, hPow_10_29, hPow_10_30, hEq_i, hNe_i, hLen_l, hLen_t, hMin2_i, hMax2_i, hMin3_i, hInt1_b, hInt1_i, hBits_i, hListOf_l, hListOf_t, hTupOf_l, hTupOf_t, gSeqS_def, gSet_def, gRet_def, gIfS_def, gNext_def, gTup_def, gLst_def, List.getElem?_cons_zero, List.getElem?_cons_succ, List.set_cons_zero, List.set_cons_succ, List.length_cons, List.length_nil, Nat.zero_add, Nat.reduceAdd, Nat.reduceLeDiff, Nat.reduceSub, Nat.reduceMul, if_true, if_false, Bool.false_eq_true, List.replicate_succ, List.replicate_zero, List.cons_append, List.nil_append, tgN, tgT, tgCons, tgNil, Int.reducePow, Int.reduceAdd, Int.reduceSub, Int.reduceMul, decide_true, decide_false, Bool.not_true, Bool.not_false, gChain_def, hIsa_int, hIsa_intb, hIsa_list, hIsa_tuple, gDrop_def]
  rw [seq_nx e2]
  have e3 : gRng1 (gCons (gVar 1) gNil) [.int cell, .int n, .int B30, .list [], .int (cell - 1000000000000000000), .none, .none, .none] = .ok ((List.range n).map fun (k : Nat) => PyData.int (k : Int)) := by
    rw [← rangeD_nat]
    refine rng1_ok ?_ (by omega) (by omega)
    simp (disch := first | omega | decide) only [bnd_ok, gVar_def, gC_def, gOp_def, gUn_def, gNil_def, gCons_def, gIf_def, gTest_def, gNot_def, gAnd_def, gOr_def, gAndV_def, gOrV_def, gNotV_def, gCB_def, asB_b, hAdd_i, hSub_i, hLt_i, hLe_i, hGt_i, hGe_i, hMul_r, hMul_l, hMod_i, hDiv_s, hBand_i, hShr_i, hPow_10_18, hPow_10_27, hPow_10_28, hPow_10_29, hPow_10_30, hEq_i, hNe_i, hLen_l, hLen_t, hMin2_i, hMax2_i, hMin3_i, hInt1_b, hInt1_i, hBits_i, hListOf_l, hListOf_t, hTupOf_l, hTupOf_t, gSeqS_def, gSet_def, gRet_def, gIfS_def, gNext_def, gTup_def, gLst_def, List.getElem?_cons_zero, List.getElem?_cons_succ, List.set_cons_zero, List.set_cons_succ, List.length_cons, List.length_nil, Nat.zero_add, Nat.reduceAdd, Nat.reduceLeDiff, Nat.reduceSub, Nat.reduceMul, if_true, if_false, Bool.false_eq_true, List.replicate_succ, List.replicate_zero, List.cons_append, List.nil_append, tgN, tgT, tgCons, tgNil, Int.reducePow, Int.reduceAdd, Int.reduceSub, Int.reduceMul, decide_true, decide_false, Bool.not_true, Bool.not_false, gChain_def, hIsa_int, hIsa_intb, hIsa_list, hIsa_tuple, gDrop_def]
  exact (seq_nx (b := gRet (gVar 3)) (for_ok e3 hf)).trans rfl

/-! ### records -/
abbrev T3 := Int × Int × Int
def enc3 (t : T3) : Dt := .tuple [.int t.1, .int t.2.1, .int t.2.2]
structure TieOk (n : Int) (t : T3) : Prop where
  m0 : 0 ≤ t.1
  m1 : t.1 < B30
  a0 : 0 ≤ t.2.1
  ab : t.2.1 ≤ t.2.2
  bn : t.2.2 < n
structure RecOk (n : Int) (r : List T3) : Prop where
  len : r.length ≤ 60
  ties : ∀ t ∈ r, TieOk n t
  ord : r.Pairwise fun s t => s.1 < t.1
theorem ix_ok {ns : List Int} (hns : ∀ x ∈ ns, 0 ≤ x ∧ x < B30) {i : Int} (h0 : 0 ≤ i) (h1 : i < ns.length) : ∃ x, hIx (.list (ns.map .int)) (.int i) = .ok (.int x) ∧ 0 ≤ x ∧ x < B30 :=
  ⟨_, hIx_ints h0 h1, hns _ (List.getElem_mem _)⟩
theorem ix3 (a b c i : Int) (h0 : 0 ≤ i) (h1 : i < 3) : hIx (.list [.int a, .int b, .int c]) (.int i) = .ok (.int (if i = 0 then a else if i = 1 then b else c)) := by
  have : i = 0 ∨ i = 1 ∨ i = 2 := by omega
  rcases this with rfl | rfl | rfl <;> rfl
theorem map3_snoc (r : List T3) (t : T3) : r.map enc3 ++ [enc3 t] = (r ++ [t]).map enc3 := by rw [List.map_append]; rfl
def rB : Gs := (gSeqS (gAsg (gCallN 4 f_l_ends (gCons (gVar 2) (gCons (gOp hMod (gOp hIx (gVar 0) (gC (.int (3)))) (gC (.int (4)))) (gCons (gOp hIx (gVar 0) (gOp hAdd (gC (.int (4))) (gOp hMul (gC (.int (3))) (gVar 7)))) (gCons (gOp hIx (gVar 0) (gOp hAdd (gC (.int (5))) (gOp hMul (gC (.int (3))) (gVar 7)))) (gNil)))))) (tgT (tgCons (tgN 8) (tgCons (tgN 9) (tgNil))))) (gSeqS (gApp 6 (gTup (gCons (gVar 5) (gCons (gCB hMin2 (gCons (gVar 8) (gCons (gVar 9) (gNil)))) (gCons (gCB hMax2 (gCons (gVar 8) (gCons (gVar 9) (gNil)))) (gNil)))))) (gSet 5 (gOp hAdd (gOp hAdd (gVar 5) (gC (.int (1)))) (gOp hMod (gOp hIx (gVar 0) (gOp hAdd (gC (.int (6))) (gOp hMul (gC (.int (3))) (gVar 7)))) (gVar 4))))))
theorem rB_ok {ns : List Int} (hns : ∀ x ∈ ns, 0 ≤ x ∧ x < B30) (hl : 4 ≤ ns.length) {k : Nat} (hk : 3 * k + 6 < ns.length) {n : Int} (hn : 1 ≤ n) {wd m : Int} (hw : 0 < wd) (hm : 0 ≤ m) {r : List T3} (hr : r.length < 100) (mo : Dt) (c d8 d9 : Dt) :
    ∃ t m' q8 q9, rB [.list (ns.map .int), mo, .int n, c, .int wd, .int m, .list (r.map enc3), .int k, d8, d9] = .ok (.nx [.list (ns.map .int), mo, .int n, c, .int wd, .int m', .list ((r ++ [t]).map enc3), .int k, q8, q9])
      ∧ t.1 = m ∧ 0 ≤ t.2.1 ∧ t.2.1 ≤ t.2.2 ∧ t.2.2 < n ∧ m < m' ∧ m' ≤ m + wd := by
  obtain ⟨x3, e3, _⟩ := ix_ok hns (i := 3) (by omega) (by omega)
  obtain ⟨x4, e4, _⟩ := ix_ok hns (i := 4 + 3 * (k : Int)) (by omega) (by omega)
  obtain ⟨x5, e5, _⟩ := ix_ok hns (i := 5 + 3 * (k : Int)) (by omega) (by omega)
  obtain ⟨x6, e6, _⟩ := ix_ok hns (i := 6 + 3 * (k : Int)) (by omega) (by omega)
  obtain ⟨a, b, he, ha0, ha, hb0, hb⟩ := ends_ok n (x3 % 4) x4 x5 hn
  have w0 := Int.emod_nonneg x6 (show wd ≠ 0 by omega)
  have w1 := Int.emod_lt_of_pos x6 hw
  have c1 : gAsg (gCallN 4 f_l_ends (gCons (gVar 2) (gCons (gOp hMod (gOp hIx (gVar 0) (gC (.int (3)))) (gC (.int (4)))) (gCons (gOp hIx (gVar 0) (gOp hAdd (gC (.int (4))) (gOp hMul (gC (.int (3))) (gVar 7)))) (gCons (gOp hIx (gVar 0) (gOp hAdd (gC (.int (5))) (gOp hMul (gC (.int (3))) (gVar 7)))) (gNil)))))) (tgT (tgCons (tgN 8) (tgCons (tgN 9) (tgNil))))
      [.list (ns.map .int), mo, .int n, c, .int wd, .int m, .list (r.map enc3), .int k, d8, d9] = .ok (.nx [.list (ns.map .int), mo, .int n, c, .int wd, .int m, .list (r.map enc3), .int k, .int a, .int b]) := by
    refine asg_ok (callN_ok (ds := [.int n, .int (x3 % 4), .int x4, .int x5]) ?_ rfl he) ?_
    · simp (disch := omega) only [bnd_ok, gVar_def, gC_def, gOp_def, gUn_def, gNil_def, gCons_def, gIf_def, gTest_def, gNot_def, gAnd_def, gOr_def, gAndV_def, gOrV_def, gNotV_def, gCB_def, asB_b, hAdd_i, hSub_i, hLt_i, hLe_i, hGt_i, hGe_i, hMul_r, hMul_l, hMod_i, hDiv_s, hBand_i, hShr_i, hPow_10_18, hPow_10_27, hPow_10_28, hPow_10_29, hPow_10_30, hEq_i, hNe_i, hLen_l, hLen_t, hMin2_i, hMax2_i, hMin3_i, hInt1_b, hInt1_i, hBits_i, hListOf_l, hListOf_t, hTupOf_l, hTupOf_t, gSeqS_def, gSet_def, gRet_def, gIfS_def, gNext_def, gTup_def, gLst_def, List.getElem?_cons_zero, List.getElem?_cons_succ, List.set_cons_zero, List.set_cons_succ, List.length_cons, List.length_nil, Nat.zero_add, Nat.reduceAdd, Nat.reduceLeDiff, Nat.reduceSub, Nat.reduceMul, if_true, if_false, Bool.false_eq_true, List.replicate_succ, List.replicate_zero, List.cons_append, List.nil_append, tgN, tgT, tgCons, tgNil, Int.reducePow, Int.reduceAdd, Int.reduceSub, Int.reduceMul, decide_true, decide_false, Bool.not_true, Bool.not_false, gChain_def, hIsa_int, hIsa_intb, hIsa_list, hIsa_tuple, gDrop_def, e3, e4, e5]
    · simp only [bnd_ok, gVar_def, gC_def, gOp_def, gUn_def, gNil_def, gCons_def, gIf_def, gTest_def, gNot_def, gAnd_def, gOr_def, gAndV_def, gOrV_def, gNotV_def, gCB_def, asB_b, hAdd_i, hSub_i, hLt_i, hLe_i, hGt_i, hGe_i, hMul_r, hMul_l, hMod_i, hDiv_s, hBand_i, hShr_i, hPow_10_18, hPow_10_27, hPow_10_28, hPow_10_29, hPow_10_30, hEq_i, hNe_i, hLen_l, hLen_t, hMin2_i, hMax2_i, hMin3_i, hInt1_b, hInt1_i, hBits_i, hListOf_l, hListOf_t, hTupOf_l, hTupOf_t, gSeqS_def, gSet_def, gRet_def, gIfS_def, gNext_def, gTup_def, gLst_def, List.getElem?_cons_zero, List.getElem?_cons_succ, List.set_cons_zero, List.set_cons_succ, List.length_cons, List.length_nil, Nat.zero_add, Nat.reduceAdd, Nat.reduceLeDiff, Nat.reduceSub, Nat.reduceMul, if_true, if_false, Bool.false_eq_true, List.replicate_succ, List.replicate_zero, List.cons_append, List.nil_append, tgN, tgT, tgCons, tgNil, Int.reducePow, Int.reduceAdd, Int.reduceSub, Int.reduceMul, decide_true, decide_false, Bool.not_true, Bool.not_false, gChain_def, hIsa_int, hIsa_intb, hIsa_list, hIsa_tuple, gDrop_def]
  have c2 : gApp 6 (gTup (gCons (gVar 5) (gCons (gCB hMin2 (gCons (gVar 8) (gCons (gVar 9) (gNil)))) (gCons (gCB hMax2 (gCons (gVar 8) (gCons (gVar 9) (gNil)))) (gNil)))))
      [.list (ns.map .int), mo, .int n, c, .int wd, .int m, .list (r.map enc3), .int k, .int a, .int b] = .ok (.nx [.list (ns.map .int), mo, .int n, c, .int wd, .int m, .list ((r ++ [(m, (if b < a then b else a), (if b > a then b else a))]).map enc3), .int k, .int a, .int b]) := by
    refine (gApp_l (ds := r.map enc3) (d := enc3 (m, (if b < a then b else a), (if b > a then b else a))) rfl ?_ (by rw [List.length_map]; omega)).trans ?_
    · simp (disch := omega) only [bnd_ok, gVar_def, gC_def, gOp_def, gUn_def, gNil_def, gCons_def, gIf_def, gTest_def, gNot_def, gAnd_def, gOr_def, gAndV_def, gOrV_def, gNotV_def, gCB_def, asB_b, hAdd_i, hSub_i, hLt_i, hLe_i, hGt_i, hGe_i, hMul_r, hMul_l, hMod_i, hDiv_s, hBand_i, hShr_i, hPow_10_18, hPow_10_27, hPow_10_28, hPow_10_29, hPow_10_30, hEq_i, hNe_i, hLen_l, hLen_t, hMin2_i, hMax2_i, hMin3_i, hInt1_b, hInt1_i, hBits_i, hListOf_l, hListOf_t, hTupOf_l, hTupOf_t, gSeqS_def, gSet_def, gRet_def, gIfS_def, gNext_def, gTup_def, gLst_def, List.getElem?_cons_zero, List.getElem?_cons_succ, List.set_cons_zero, List.set_cons_succ, List.length_cons, List.length_nil, Nat.zero_add, Nat.reduceAdd, Nat.reduceLeDiff, Nat.reduceSub, Nat.reduceMul, if_true, if_false, Bool.false_eq_true, List.replicate_succ, List.replicate_zero, List.cons_append, List.nil_append, tgN, tgT, tgCons, tgNil, Int.reducePow, Int.reduceAdd, Int.reduceSub, Int.reduceMul, decide_true, decide_false, Bool.not_true, Bool.not_false, gChain_def, hIsa_int, hIsa_intb, hIsa_list, hIsa_tuple, gDrop_def]
      rfl
    · rw [map3_snoc]; rfl
  unfold rB
  rw [seq_nx c1, seq_nx c2]
  refine ⟨(m, (if b < a then b else a), (if b > a then b else a)), m + 1 + x6 % wd, .int a, .int b, ?_, rfl, ?_, ?_, ?_, by omega, by omega⟩
  · simp (disch := omega) only [bnd_ok, gVar_def, gC_def, gOp_def, gUn_def, gNil_def, gCons_def, gIf_def, gTest_def, gNot_def, gAnd_def, gOr_def, gAndV_def, gOrV_def, gNotV_def, gCB_def, asB_b, hAdd_i, hSub_i, hLt_i, hLe_i, hGt_i, hGe_i, hMul_r, hMul_l, hMod_i, hDiv_s, hBand_i, hShr_i, hPow_10_18, hPow_10_27, hPow_10_28, hPow_10_29, hPow_10_30, hEq_i, hNe_i, hLen_l, hLen_t, hMin2_i, hMax2_i, hMin3_i, hInt1_b, hInt1_i, hBits_i, hListOf_l, hListOf_t, hTupOf_l, hTupOf_t, gSeqS_def, gSet_def, gRet_def, gIfS_def, gNext_def, gTup_def, gLst_def, List.getElem?_cons_zero, List.getElem?_cons_succ, List.set_cons_zero, List.set_cons_succ, List.length_cons, List.length_nil, Nat.zero_add, Nat.reduceAdd, Nat.reduceLeDiff, Nat.reduceSub, Nat.reduceMul, if_true, if_false, Bool.false_eq_true, List.replicate_succ, List.replicate_zero, List.cons_append, List.nil_append, tgN, tgT, tgCons, tgNil, Int.reducePow, Int.reduceAdd, Int.reduceSub, Int.reduceMul, decide_true, decide_false, Bool.not_true, Bool.not_false, gChain_def, hIsa_int, hIsa_intb, hIsa_list, hIsa_tuple, gDrop_def, e6]
  · show 0 ≤ (if b < a then b else a)
    split <;> omega
  · show (if b < a then b else a) ≤ (if b > a then b else a)
    split <;> split <;> omega
  · show (if b > a then b else a) < n
    split <;> omega
theorem rec_snoc {n : Int} {r : List T3} {t : T3} (h : ∀ t ∈ r, TieOk n t) (o : r.Pairwise fun s t => s.1 < t.1) (ht : TieOk n t) (hlt : ∀ s ∈ r, s.1 < t.1) : (∀ s ∈ r ++ [t], TieOk n s) ∧ (r ++ [t]).Pairwise fun s t => s.1 < t.1 := by
  refine ⟨fun s hs => ?_, List.pairwise_append.mpr ⟨o, List.pairwise_singleton _ _, fun a ha b hb => ?_⟩⟩
  · rcases List.mem_append.mp hs with h' | h'
    · exact h s h'
    · rw [List.mem_singleton.mp h']; exact ht
  · rw [List.mem_singleton.mp hb]
    exact hlt a ha
theorem record_ok {ns : List Int} {most : Int} (hns : ∀ x ∈ ns, 0 ≤ x ∧ x < B30) (hl : 4 ≤ ns.length) (hl2 : ns.length ≤ 1000) (h0 : 0 ≤ most) (h1 : most ≤ 60) :
    ∃ n r, f_l_record [.list (ns.map .int), .int most] = .ok (.tuple [.int n, .list (r.map enc3)]) ∧ 1 ≤ n ∧ n ≤ 10 ∧ RecOk n r ∧ (r.length : Int) ≤ most := by
  obtain ⟨x0, e0, b0⟩ := ix_ok hns (i := 0) (by omega) (by omega)
  obtain ⟨x1, e1, b1⟩ := ix_ok hns (i := 1) (by omega) (by omega)
  obtain ⟨x2, e2, b2⟩ := ix_ok hns (i := 2) (by omega) (by omega)
  obtain ⟨x3, e3, b3⟩ := ix_ok hns (i := 3) (by omega) (by omega)
  suffices h : ∃ n r, g_l_record [.list (ns.map .int), .int most, .none, .none, .none, .none, .none, .none, .none, .none] = .ok (.rt (.tuple [.int n, .list (r.map enc3)])) ∧ 1 ≤ n ∧ n ≤ 10 ∧ RecOk n r ∧ (r.length : Int) ≤ most by
    obtain ⟨n, r, h, q⟩ := h
    exact ⟨n, r, fnN_rt h, q⟩
  unfold g_l_record
  -- n
  rw [seq_nx (ρ' := [.list (ns.map .int), .int most, .int (1 + x0 % 6), .none, .none, .none, .none, .none, .none, .none]) (by simp (disch := omega) only [bnd_ok, gVar_def, gC_def, gOp_def, gUn_def, gNil_def, gCons_def, gIf_def, gTest_def, gNot_def, gAnd_def, gOr_def, gAndV_def, gOrV_def, gNotV_def, gCB_def, asB_b, hAdd_i, hSub_i, hLt_i, hLe_i, hGt_i, hGe_i, hMul_r, hMul_l, hMod_i, hDiv_s, hBand_i, hShr_i, hPow_10_18, hPow_10_27, hPow_10_28, hPow_10_29, hPow_10_30, hEq_i, hNe_i, hLen_l, hLen_t, hMin2_i, hMax2_i, hMin3_i, hInt1_b, hInt1_i, hBits_i, hListOf_l, hListOf_t, hTupOf_l, hTupOf_t, gSeqS_def, gSet_def, gRet_def, gIfS_def, gNext_def, gTup_def, gLst_def, List.getElem?_cons_zero, List.getElem?_cons_succ, List.set_cons_zero, List.set_cons_succ, List.length_cons, List.length_nil, Nat.zero_add, Nat.reduceAdd, Nat.reduceLeDiff, Nat.reduceSub, Nat.reduceMul, if_true, if_false, Bool.false_eq_true, List.replicate_succ, List.replicate_zero, List.cons_append, List.nil_append, tgN, tgT, tgCons, tgNil, Int.reducePow, Int.reduceAdd, Int.reduceSub, Int.reduceMul, decide_true, decide_false, Bool.not_true, Bool.not_false, gChain_def, hIsa_int, hIsa_intb, hIsa_list, hIsa_tuple, gDrop_def, e0])]
  obtain ⟨n, hn, n1, n10⟩ : ∃ n, gIfS (gTest (gOp hEq (gOp hMod (gOp hDiv (gOp hIx (gVar 0) (gC (.int (0)))) (gC (.int (6)))) (gC (.int (8)))) (gC (.int (1))))) (gSet 2 (gOp hAdd (gC (.int (7))) (gOp hMod (gOp hDiv (gOp hIx (gVar 0) (gC (.int (0)))) (gC (.int (48)))) (gC (.int (4)))))) gNext
      [.list (ns.map .int), .int most, .int (1 + x0 % 6), .none, .none, .none, .none, .none, .none, .none] = .ok (.nx [.list (ns.map .int), .int most, .int n, .none, .none, .none, .none, .none, .none, .none]) ∧ 1 ≤ n ∧ n ≤ 10 := by
    by_cases c : x0 / 6 % 8 = 1
    · exact ⟨7 + x0 / 48 % 4, by simp (disch := omega) only [bnd_ok, gVar_def, gC_def, gOp_def, gUn_def, gNil_def, gCons_def, gIf_def, gTest_def, gNot_def, gAnd_def, gOr_def, gAndV_def, gOrV_def, gNotV_def, gCB_def, asB_b, hAdd_i, hSub_i, hLt_i, hLe_i, hGt_i, hGe_i, hMul_r, hMul_l, hMod_i, hDiv_s, hBand_i, hShr_i, hPow_10_18, hPow_10_27, hPow_10_28, hPow_10_29, hPow_10_30, hEq_i, hNe_i, hLen_l, hLen_t, hMin2_i, hMax2_i, hMin3_i, hInt1_b, hInt1_i, hBits_i, hListOf_l, hListOf_t, hTupOf_l, hTupOf_t, gSeqS_def, gSet_def, gRet_def, gIfS_def, gNext_def, gTup_def, gLst_def, List.getElem?_cons_zero, List.getElem?_cons_succ, List.set_cons_zero, List.set_cons_succ, List.length_cons, List.length_nil, Nat.zero_add, Nat.reduceAdd, Nat.reduceLeDiff, Nat.reduceSub, Nat.reduceMul, if_true, if_false, Bool.false_eq_true, List.replicate_succ, List.replicate_zero, List.cons_append, List.nil_append, tgN, tgT, tgCons, tgNil, Int.reducePow, Int.reduceAdd, Int.reduceSub, Int.reduceMul, decide_true, decide_false, Bool.not_true, Bool.not_false, gChain_def, hIsa_int, hIsa_intb, hIsa_list, hIsa_tuple, gDrop_def, e0, c, beq_self_eq_true], by omega, by omega⟩
    · have c' : (x0 / 6 % 8 == 1) = false := beq_eq_false_iff_ne.mpr c
      exact ⟨1 + x0 % 6, by simp (disch := omega) only [bnd_ok, gVar_def, gC_def, gOp_def, gUn_def, gNil_def, gCons_def, gIf_def, gTest_def, gNot_def, gAnd_def, gOr_def, gAndV_def, gOrV_def, gNotV_def, gCB_def, asB_b, hAdd_i, hSub_i, hLt_i, hLe_i, hGt_i, hGe_i, hMul_r, hMul_l, hMod_i, hDiv_s, hBand_i, hShr_i, hPow_10_18, hPow_10_27, hPow_10_28, hPow_10_29, hPow_10_30, hEq_i, hNe_i, hLen_l, hLen_t, hMin2_i, hMax2_i, hMin3_i, hInt1_b, hInt1_i, hBits_i, hListOf_l, hListOf_t, hTupOf_l, hTupOf_t, gSeqS_def, gSet_def, gRet_def, gIfS_def, gNext_def, gTup_def, gLst_def, List.getElem?_cons_zero, List.getElem?_cons_succ, List.set_cons_zero, List.set_cons_succ, List.length_cons, List.length_nil, Nat.zero_add, Nat.reduceAdd, Nat.reduceLeDiff, Nat.reduceSub, Nat.reduceMul, if_true, if_false, Bool.false_eq_true, List.replicate_succ, List.replicate_zero, List.cons_append, List.nil_append, tgN, tgT, tgCons, tgNil, Int.reducePow, Int.reduceAdd, Int.reduceSub, Int.reduceMul, decide_true, decide_false, Bool.not_true, Bool.not_false, gChain_def, hIsa_int, hIsa_intb, hIsa_list, hIsa_tuple, gDrop_def, e0, c'], by omega, by omega⟩
  rw [seq_nx hn]
  -- many
  rw [seq_nx (ρ' := [.list (ns.map .int), .int most, .int n, .int (x1 % 13), .none, .none, .none, .none, .none, .none]) (by simp (disch := omega) only [bnd_ok, gVar_def, gC_def, gOp_def, gUn_def, gNil_def, gCons_def, gIf_def, gTest_def, gNot_def, gAnd_def, gOr_def, gAndV_def, gOrV_def, gNotV_def, gCB_def, asB_b, hAdd_i, hSub_i, hLt_i, hLe_i, hGt_i, hGe_i, hMul_r, hMul_l, hMod_i, hDiv_s, hBand_i, hShr_i, hPow_10_18, hPow_10_27, hPow_10_28, hPow_10_29, hPow_10_30, hEq_i, hNe_i, hLen_l, hLen_t, hMin2_i, hMax2_i, hMin3_i, hInt1_b, hInt1_i, hBits_i, hListOf_l, hListOf_t, hTupOf_l, hTupOf_t, gSeqS_def, gSet_def, gRet_def, gIfS_def, gNext_def, gTup_def, gLst_def, List.getElem?_cons_zero, List.getElem?_cons_succ, List.set_cons_zero, List.set_cons_succ, List.length_cons, List.length_nil, Nat.zero_add, Nat.reduceAdd, Nat.reduceLeDiff, Nat.reduceSub, Nat.reduceMul, if_true, if_false, Bool.false_eq_true, List.replicate_succ, List.replicate_zero, List.cons_append, List.nil_append, tgN, tgT, tgCons, tgNil, Int.reducePow, Int.reduceAdd, Int.reduceSub, Int.reduceMul, decide_true, decide_false, Bool.not_true, Bool.not_false, gChain_def, hIsa_int, hIsa_intb, hIsa_list, hIsa_tuple, gDrop_def, e1])]
  obtain ⟨many, hm, m0, m60⟩ : ∃ n', gIfS (gTest (gOp hEq (gOp hMod (gOp hDiv (gOp hIx (gVar 0) (gC (.int (1)))) (gC (.int (13)))) (gC (.int (8)))) (gC (.int (1))))) (gSet 3 (gOp hAdd (gC (.int (13))) (gOp hMod (gOp hDiv (gOp hIx (gVar 0) (gC (.int (1)))) (gC (.int (104)))) (gC (.int (48)))))) gNext
      [.list (ns.map .int), .int most, .int n, .int (x1 % 13), .none, .none, .none, .none, .none, .none] = .ok (.nx [.list (ns.map .int), .int most, .int n, .int n', .none, .none, .none, .none, .none, .none]) ∧ 0 ≤ n' ∧ n' ≤ 60 := by
    by_cases c : x1 / 13 % 8 = 1
    · exact ⟨13 + x1 / 104 % 48, by simp (disch := omega) only [bnd_ok, gVar_def, gC_def, gOp_def, gUn_def, gNil_def, gCons_def, gIf_def, gTest_def, gNot_def, gAnd_def, gOr_def, gAndV_def, gOrV_def, gNotV_def, gCB_def, asB_b, hAdd_i, hSub_i, hLt_i, hLe_i, hGt_i, hGe_i, hMul_r, hMul_l, hMod_i, hDiv_s, hBand_i, hShr_i, hPow_10_18, hPow_10_27, hPow_10_28, hPow_10_29, hPow_10_30, hEq_i, hNe_i, hLen_l, hLen_t, hMin2_i, hMax2_i, hMin3_i, hInt1_b, hInt1_i, hBits_i, hListOf_l, hListOf_t, hTupOf_l, hTupOf_t, gSeqS_def, gSet_def, gRet_def, gIfS_def, gNext_def, gTup_def, gLst_def, List.getElem?_cons_zero, List.getElem?_cons_succ, List.set_cons_zero, List.set_cons_succ, List.length_cons, List.length_nil, Nat.zero_add, Nat.reduceAdd, Nat.reduceLeDiff, Nat.reduceSub, Nat.reduceMul, if_true, if_false, Bool.false_eq_true, List.replicate_succ, List.replicate_zero, List.cons_append, List.nil_append, tgN, tgT, tgCons, tgNil, Int.reducePow, Int.reduceAdd, Int.reduceSub, Int.reduceMul, decide_true, decide_false, Bool.not_true, Bool.not_false, gChain_def, hIsa_int, hIsa_intb, hIsa_list, hIsa_tuple, gDrop_def, e1, c, beq_self_eq_true], by omega, by omega⟩
    · have c' : (x1 / 13 % 8 == 1) = false := beq_eq_false_iff_ne.mpr c
      exact ⟨x1 % 13, by simp (disch := omega) only [bnd_ok, gVar_def, gC_def, gOp_def, gUn_def, gNil_def, gCons_def, gIf_def, gTest_def, gNot_def, gAnd_def, gOr_def, gAndV_def, gOrV_def, gNotV_def, gCB_def, asB_b, hAdd_i, hSub_i, hLt_i, hLe_i, hGt_i, hGe_i, hMul_r, hMul_l, hMod_i, hDiv_s, hBand_i, hShr_i, hPow_10_18, hPow_10_27, hPow_10_28, hPow_10_29, hPow_10_30, hEq_i, hNe_i, hLen_l, hLen_t, hMin2_i, hMax2_i, hMin3_i, hInt1_b, hInt1_i, hBits_i, hListOf_l, hListOf_t, hTupOf_l, hTupOf_t, gSeqS_def, gSet_def, gRet_def, gIfS_def, gNext_def, gTup_def, gLst_def, List.getElem?_cons_zero, List.getElem?_cons_succ, List.set_cons_zero, List.set_cons_succ, List.length_cons, List.length_nil, Nat.zero_add, Nat.reduceAdd, Nat.reduceLeDiff, Nat.reduceSub, Nat.reduceMul, if_true, if_false, Bool.false_eq_true, List.replicate_succ, List.replicate_zero, List.cons_append, List.nil_append, tgN, tgT, tgCons, tgNil, Int.reducePow, Int.reduceAdd, Int.reduceSub, Int.reduceMul, decide_true, decide_false, Bool.not_true, Bool.not_false, gChain_def, hIsa_int, hIsa_intb, hIsa_list, hIsa_tuple, gDrop_def, e1, c'], by omega, by omega⟩
  rw [seq_nx hm]
  -- wide, moment
  obtain ⟨wd, hw, w0, w1⟩ : ∃ wd, gSet 4 (gOp hIx (gLst (gCons (gC (.int (1))) (gCons (gC (.int (4))) (gCons (gOp hPow (gC (.int (10))) (gC (.int (28)))) (gNil))))) (gOp hMod (gOp hIx (gVar 0) (gC (.int (2)))) (gC (.int (3)))))
      [.list (ns.map .int), .int most, .int n, .int many, .none, .none, .none, .none, .none, .none] = .ok (.nx [.list (ns.map .int), .int most, .int n, .int many, .int wd, .none, .none, .none, .none, .none]) ∧ 0 < wd ∧ wd ≤ 10000000000000000000000000000 := by
    refine ⟨if x2 % 3 = 0 then 1 else if x2 % 3 = 1 then 4 else 10000000000000000000000000000, by simp (disch := omega) only [bnd_ok, gVar_def, gC_def, gOp_def, gUn_def, gNil_def, gCons_def, gIf_def, gTest_def, gNot_def, gAnd_def, gOr_def, gAndV_def, gOrV_def, gNotV_def, gCB_def, asB_b, hAdd_i, hSub_i, hLt_i, hLe_i, hGt_i, hGe_i, hMul_r, hMul_l, hMod_i, hDiv_s, hBand_i, hShr_i, hPow_10_18, hPow_10_27, hPow_10_28, hPow_10_29, hPow_10_30, hEq_i, hNe_i, hLen_l, hLen_t, hMin2_i, hMax2_i, hMin3_i, hInt1_b, hInt1_i, hBits_i, hListOf_l, hListOf_t, hTupOf_l, hTupOf_t, gSeqS_def, gSet_def, gRet_def, gIfS_def, gNext_def, gTup_def, gLst_def, List.getElem?_cons_zero, List.getElem?_cons_succ, List.set_cons_zero, List.set_cons_succ, List.length_cons, List.length_nil, Nat.zero_add, Nat.reduceAdd, Nat.reduceLeDiff, Nat.reduceSub, Nat.reduceMul, if_true, if_false, Bool.false_eq_true, List.replicate_succ, List.replicate_zero, List.cons_append, List.nil_append, tgN, tgT, tgCons, tgNil, Int.reducePow, Int.reduceAdd, Int.reduceSub, Int.reduceMul, decide_true, decide_false, Bool.not_true, Bool.not_false, gChain_def, hIsa_int, hIsa_intb, hIsa_list, hIsa_tuple, gDrop_def, e2, ix3], ?_, ?_⟩
    · split <;> (try split) <;> omega
    · split <;> (try split) <;> omega
  rw [seq_nx hw]
  obtain ⟨mo, hmo, mo0, mo1⟩ : ∃ mo, gSet 5 (gOp hIx (gLst (gCons (gC (.int (0))) (gCons (gOp hMod (gOp hDiv (gOp hIx (gVar 0) (gC (.int (2)))) (gC (.int (12)))) (gC (.int (100)))) (gCons (gOp hMod (gOp hIx (gVar 0) (gC (.int (3)))) (gOp hPow (gC (.int (10))) (gC (.int (29))))) (gNil))))) (gOp hMod (gOp hDiv (gOp hIx (gVar 0) (gC (.int (2)))) (gC (.int (3)))) (gC (.int (3)))))
      [.list (ns.map .int), .int most, .int n, .int many, .int wd, .none, .none, .none, .none, .none] = .ok (.nx [.list (ns.map .int), .int most, .int n, .int many, .int wd, .int mo, .none, .none, .none, .none]) ∧ 0 ≤ mo ∧ mo ≤ 100000000000000000000000000000 := by
    refine ⟨if x2 / 3 % 3 = 0 then 0 else if x2 / 3 % 3 = 1 then x2 / 12 % 100 else x3 % 100000000000000000000000000000, by simp (disch := omega) only [bnd_ok, gVar_def, gC_def, gOp_def, gUn_def, gNil_def, gCons_def, gIf_def, gTest_def, gNot_def, gAnd_def, gOr_def, gAndV_def, gOrV_def, gNotV_def, gCB_def, asB_b, hAdd_i, hSub_i, hLt_i, hLe_i, hGt_i, hGe_i, hMul_r, hMul_l, hMod_i, hDiv_s, hBand_i, hShr_i, hPow_10_18, hPow_10_27, hPow_10_28, hPow_10_29, hPow_10_30, hEq_i, hNe_i, hLen_l, hLen_t, hMin2_i, hMax2_i, hMin3_i, hInt1_b, hInt1_i, hBits_i, hListOf_l, hListOf_t, hTupOf_l, hTupOf_t, gSeqS_def, gSet_def, gRet_def, gIfS_def, gNext_def, gTup_def, gLst_def, List.getElem?_cons_zero, List.getElem?_cons_succ, List.set_cons_zero, List.set_cons_succ, List.length_cons, List.length_nil, Nat.zero_add, Nat.reduceAdd, Nat.reduceLeDiff, Nat.reduceSub, Nat.reduceMul, if_true, if_false, Bool.false_eq_true, List.replicate_succ, List.replicate_zero, List.cons_append, List.nil_append, tgN, tgT, tgCons, tgNil, Int.reducePow, Int.reduceAdd, Int.reduceSub, Int.reduceMul, decide_true, decide_false, Bool.not_true, Bool.not_false, gChain_def, hIsa_int, hIsa_intb, hIsa_list, hIsa_tuple, gDrop_def, e2, e3, ix3], ?_, ?_⟩
    · split <;> (try split) <;> omega
    · split <;> (try split) <;> omega
  rw [seq_nx hmo]
  rw [seq_nx (ρ' := [.list (ns.map .int), .int most, .int n, .int many, .int wd, .int mo, .list [], .none, .none, .none]) (by simp (disch := omega) only [bnd_ok, gVar_def, gC_def, gOp_def, gUn_def, gNil_def, gCons_def, gIf_def, gTest_def, gNot_def, gAnd_def, gOr_def, gAndV_def, gOrV_def, gNotV_def, gCB_def, asB_b, hAdd_i, hSub_i, hLt_i, hLe_i, hGt_i, hGe_i, hMul_r, hMul_l, hMod_i, hDiv_s, hBand_i, hShr_i, hPow_10_18, hPow_10_27, hPow_10_28, hPow_10_29, hPow_10_30, hEq_i, hNe_i, hLen_l, hLen_t, hMin2_i, hMax2_i, hMin3_i, hInt1_b, hInt1_i, hBits_i, hListOf_l, hListOf_t, hTupOf_l, hTupOf_t, gSeqS_def, gSet_def, gRet_def, gIfS_def, gNext_def, gTup_def, gLst_def, List.getElem?_cons_zero, List.getElem?_cons_succ, List.set_cons_zero, List.set_cons_succ, List.length_cons, List.length_nil, Nat.zero_add, Nat.reduceAdd, Nat.reduceLeDiff, Nat.reduceSub, Nat.reduceMul, if_true, if_false, Bool.false_eq_true, List.replicate_succ, List.replicate_zero, List.cons_append, List.nil_append, tgN, tgT, tgCons, tgNil, Int.reducePow, Int.reduceAdd, Int.reduceSub, Int.reduceMul, decide_true, decide_false, Bool.not_true, Bool.not_false, gChain_def, hIsa_int, hIsa_intb, hIsa_list, hIsa_tuple, gDrop_def, Nat.zero_le])]
  -- the loop
  obtain ⟨cnt, hc, c0, c1, c2⟩ : ∃ cnt : Nat, gRng1 (gCons (gCB hMin3 (gCons (gVar 3) (gCons (gVar 1) (gCons (gOp hDiv (gOp hSub (gCB hLen (gCons (gVar 0) (gNil))) (gC (.int (4)))) (gC (.int (3)))) (gNil))))) (gNil))
      [.list (ns.map .int), .int most, .int n, .int many, .int wd, .int mo, .list [], .none, .none, .none] = .ok ((List.range cnt).map fun (k : Nat) => PyData.int (k : Int)) ∧ (cnt : Int) ≤ most ∧ cnt ≤ 60 ∧ 3 * cnt + 4 ≤ ns.length := by
    generalize hq : (if most < many then (if ((ns.length : Int) - 4) / 3 < most then ((ns.length : Int) - 4) / 3 else most) else (if ((ns.length : Int) - 4) / 3 < many then ((ns.length : Int) - 4) / 3 else many)) = q
    have q0 : 0 ≤ q ∧ q ≤ most ∧ q ≤ 60 ∧ 3 * q + 4 ≤ ns.length := by
      split at hq <;> split at hq <;> omega
    refine ⟨q.toNat, ?_, by omega, by omega, by omega⟩
    rw [← rangeD_nat, show ((q.toNat : Nat) : Int) = q by omega]
    refine rng1_ok ?_ (by omega) (by omega)
    simp (disch := omega) only [bnd_ok, gVar_def, gC_def, gOp_def, gUn_def, gNil_def, gCons_def, gIf_def, gTest_def, gNot_def, gAnd_def, gOr_def, gAndV_def, gOrV_def, gNotV_def, gCB_def, asB_b, hAdd_i, hSub_i, hLt_i, hLe_i, hGt_i, hGe_i, hMul_r, hMul_l, hMod_i, hDiv_s, hBand_i, hShr_i, hPow_10_18, hPow_10_27, hPow_10_28, hPow_10_29, hPow_10_30, hEq_i, hNe_i, hLen_l, hLen_t, hMin2_i, hMax2_i, hMin3_i, hInt1_b, hInt1_i, hBits_i, hListOf_l, hListOf_t, hTupOf_l, hTupOf_t, gSeqS_def, gSet_def, gRet_def, gIfS_def, gNext_def, gTup_def, gLst_def, List.getElem?_cons_zero, List.getElem?_cons_succ, List.set_cons_zero, List.set_cons_succ, List.length_cons, List.length_nil, Nat.zero_add, Nat.reduceAdd, Nat.reduceLeDiff, Nat.reduceSub, Nat.reduceMul, if_true, if_false, Bool.false_eq_true, List.replicate_succ, List.replicate_zero, List.cons_append, List.nil_append, tgN, tgT, tgCons, tgNil, Int.reducePow, Int.reduceAdd, Int.reduceSub, Int.reduceMul, decide_true, decide_false, Bool.not_true, Bool.not_false, gChain_def, hIsa_int, hIsa_intb, hIsa_list, hIsa_tuple, gDrop_def, List.length_map, hq]
  obtain ⟨ρ', hf, r, m', d7, d8, d9, rfl, hl', hm', hm2, ht, ho, hlt⟩ := forE_ix (fun (k : Nat) => PyData.int (k : Int)) (h := tgN 7) (b := rB) (List.range cnt)
    (fun i ρ => ∃ (r : List T3) (m : Int) (d7 d8 d9 : Dt), ρ = [.list (ns.map .int), .int most, .int n, .int many, .int wd, .int m, .list (r.map enc3), d7, d8, d9] ∧ r.length = i ∧ 0 ≤ m ∧ m ≤ 100000000000000000000000000000 + i * 10000000000000000000000000000 ∧ (∀ t ∈ r, TieOk n t) ∧ (r.Pairwise fun s t => s.1 < t.1) ∧ ∀ t ∈ r, t.1 < m)
    (ρ := [.list (ns.map .int), .int most, .int n, .int many, .int wd, .int mo, .list [], .none, .none, .none]) ⟨[], mo, _, _, _, rfl, rfl, mo0, by omega, by simp, .nil, by simp⟩ (by
      rintro i ρ hi ⟨r, m, d7, d8, d9, rfl, hl', hm', hm2, ht, ho, hlt⟩
      rw [List.getElem_range]
      rw [List.length_range] at hi
      obtain ⟨t, m2, e8, e9, hB, t1, t2, t3, t4, t5, t6⟩ := rB_ok hns hl (k := i) (by omega) n1 w0 hm' (r := r) (by omega) (.int most) (.int many) d8 d9
      have tok : TieOk n t := ⟨by omega, by unfold B30; omega, t2, t3, t4⟩
      obtain ⟨s1, s2⟩ := rec_snoc ht ho tok (fun s hs => by rw [t1]; exact hlt s hs)
      refine ⟨_, _, rfl, .inl hB, r ++ [t], m2, _, _, _, rfl, by rw [List.length_append, hl']; rfl, by omega, by omega, s1, s2, fun s hs => ?_⟩
      rcases List.mem_append.mp hs with h | h
      · have := hlt s h; omega
      · rw [List.mem_singleton.mp h]; omega)
  rw [List.length_range] at hl'
  refine ⟨n, r, (seq_nx (b := gRet (gTup (gCons (gVar 2) (gCons (gVar 6) gNil)))) (for_ok hc hf)).trans ?_, n1, n10, ⟨by omega, ht, ho⟩, by omega⟩
  simp only [bnd_ok, gVar_def, gC_def, gOp_def, gUn_def, gNil_def, gCons_def, gIf_def, gTest_def, gNot_def, gAnd_def, gOr_def, gAndV_def, gOrV_def, gNotV_def, gCB_def, asB_b, hAdd_i, hSub_i, hLt_i, hLe_i, hGt_i, hGe_i, hMul_r, hMul_l, hMod_i, hDiv_s, hBand_i, hShr_i, hPow_10_18, hPow_10_27, hPow_10_28, hPow_10_29, hPow_10_30, hEq_i, hNe_i, hLen_l, hLen_t, hMin2_i, hMax2_i, hMin3_i, hInt1_b, hInt1_i, hBits_i, hListOf_l, hListOf_t, hTupOf_l, hTupOf_t, gSeqS_def, gSet_def, gRet_def, gIfS_def, gNext_def, gTup_def, gLst_def, List.getElem?_cons_zero, List.getElem?_cons_succ, List.set_cons_zero, List.set_cons_succ, List.length_cons, List.length_nil, Nat.zero_add, Nat.reduceAdd, Nat.reduceLeDiff, Nat.reduceSub, Nat.reduceMul, if_true, if_false, Bool.false_eq_true, List.replicate_succ, List.replicate_zero, List.cons_append, List.nil_append, tgN, tgT, tgCons, tgNil, Int.reducePow, Int.reduceAdd, Int.reduceSub, Int.reduceMul, decide_true, decide_false, Bool.not_true, Bool.not_false, gChain_def, hIsa_int, hIsa_intb, hIsa_list, hIsa_tuple, gDrop_def]
end FamA
end T_FamAP

section T_FamL
set_option linter.all false
namespace FamL
open PySem Sim
def g_is_whole : Gs := gRet (gAndV (gUn (hIsa .int) (gVar 0)) (gNotV (gUn (hIsa .bool) (gVar 0))))
def f_is_whole : List Dt → O Dt := fnN 1 g_is_whole
def g_joined : Gs := gSeqS (gSet 3 (gCB hMin2 (gCons (gOp hIx (gVar 0) (gVar 1)) (gCons (gOp hIx (gVar 0) (gVar 2)) (gNil))))) (gSeqS (gSet 4 (gCB hMax2 (gCons (gOp hIx (gVar 0) (gVar 1)) (gCons (gOp hIx (gVar 0) (gVar 2)) (gNil))))) (gRet (gPurN (gLc (gSeq (gVar 0)) (tgN 5) (gYes) (gIf (gTest (gOp hEq (gVar 5) (gVar 4))) (gVar 3) (gVar 5))))))
def f_joined : List Dt → O Dt := fnL 6 g_joined
def g_is_depth : Gs := gRet (gAndV (gCallN 1 f_is_whole (gCons (gVar 0) (gNil))) (gChain hLe hLe (gC (.int (1))) (gVar 0) (gC (.int (6)))))
def f_is_depth : List Dt → O Dt := fnN 1 g_is_depth
def g_look_at_layers : Gs := gIfS (gNot (gTest (gCallN 1 f_is_depth (gCons (gVar 0) (gNil))))) (gBad) (gNext)
def f_look_at_layers : List Dt → O Dt := fnN 1 g_look_at_layers
def g_layer_for_L1 : Gs := gIfS (gTest (gOp hNe (gOp hIx (gVar 4) (gVar 1)) (gOp hIx (gVar 4) (gVar 2)))) (gRet (gOp hAdd (gVar 3) (gC (.int (1))))) (gNext)
def g_layer_for : Gs := gSeqS (gFor (gEnum (gCons (gVar 0) (gNil))) (tgT (tgCons (tgN 3) (tgCons (tgN 4) (tgNil)))) g_layer_for_L1) (gRet (gC (.int (0))))
def f_layer_for : List Dt → O Dt := fnN 5 g_layer_for
def g_layered_L1 : Gs := gSeqS (gSet 4 (gCallN 3 f_layer_for (gCons (gVar 3) (gCons (gVar 7) (gCons (gVar 8) (gNil)))))) (gSeqS (gIfS (gTest (gOp hGt (gVar 4) (gC (.int (0))))) (gSetI 3 (gCallN 3 f_joined (gCons (gOp hIx (gVar 3) (gOp hSub (gVar 4) (gC (.int (1))))) (gCons (gVar 7) (gCons (gVar 8) (gNil))))) (gOp hSub (gVar 4) (gC (.int (1))))) (gNext)) (gApp 5 (gVar 4)))
def g_layered : Gs := gSeqS (gDrop (gCallN 1 f_look_at_layers (gCons (gVar 2) (gNil)))) (gSeqS (gSet 3 (gLc (gRng1 (gCons (gVar 2) (gNil))) (tgN 4) (gYes) (gLsI (gRng1 (gCons (gVar 0) gNil))))) (gSeqS (gSet 5 (gLst (gNil))) (gSeqS (gFor (gRev (gCons (gVar 1) (gNil))) (tgT (tgCons (tgN 6) (tgCons (tgN 7) (tgCons (tgN 8) (tgNil))))) g_layered_L1) (gRet (gLsI (gRev (gCons (gVar 5) gNil)))))))
def f_layered : List Dt → O Dt := fnL 9 g_layered
def g_l_depth : Gs := gRet (gOp hIx (gLst (gCons (gOp hAdd (gC (.int (1))) (gOp hMod (gVar 0) (gC (.int (4))))) (gCons (gOp hAdd (gC (.int (1))) (gOp hMod (gOp hDiv (gVar 0) (gC (.int (32)))) (gC (.int (6))))) (gNil)))) (gCB hInt1 (gCons (gOp hEq (gOp hMod (gVar 0) (gC (.int (8)))) (gC (.int (1)))) (gNil))))
def f_l_depth : List Dt → O Dt := fnN 1 g_l_depth
end FamL
end T_FamL

section T_ConnP
set_option linter.all false
set_option maxRecDepth 100000
/-! ConnP: places joined by ties; marks; layers. Plain. -/
namespace Lay
open PySem Sim FamA

def E2 (ts : List T3) (b c : Int) : Prop := ∃ t ∈ ts, (t.2.1 = b ∧ t.2.2 = c) ∨ (t.2.1 = c ∧ t.2.2 = b)
inductive Conn (ts : List T3) : Int → Int → Prop
  | refl (a : Int) : Conn ts a a
  | step {a b c : Int} : Conn ts a b → E2 ts b c → Conn ts a c
section
variable {ts ts' : List T3} {a b c p q n : Int} {t : T3} {ms : List Int}
theorem E2.symm (h : E2 ts b c) : E2 ts c b := by
  obtain ⟨t, h1, h2⟩ := h
  exact ⟨t, h1, h2.symm⟩
theorem Conn.one (h : E2 ts a b) : Conn ts a b := .step (.refl a) h
theorem Conn.trans (h : Conn ts a b) (k : Conn ts b c) : Conn ts a c := by
  induction k with
  | refl => exact h
  | step _ e ih => exact .step ih e
theorem Conn.symm (h : Conn ts a b) : Conn ts b a := by
  induction h with
  | refl => exact .refl _
  | step _ e ih => exact (Conn.one e.symm).trans ih
theorem Conn.mono (h : ∀ b c, E2 ts b c → Conn ts' b c) (k : Conn ts a b) : Conn ts' a b := by
  induction k with
  | refl => exact .refl _
  | step _ e ih => exact ih.trans (h _ _ e)
theorem Conn.sub (h : ∀ t ∈ ts, t ∈ ts') (k : Conn ts a b) : Conn ts' a b := k.mono fun b c ⟨t, h1, h2⟩ => .one ⟨t, h t h1, h2⟩
theorem conn_mem (h : ∀ t, t ∈ ts ↔ t ∈ ts') : Conn ts a b ↔ Conn ts' a b := ⟨fun k => k.sub fun t => (h t).mp, fun k => k.sub fun t => (h t).mpr⟩
theorem conn_nil : Conn [] a b ↔ a = b := by
  constructor
  · intro h
    cases h with
    | refl => rfl
    | step _ e => obtain ⟨t, h1, _⟩ := e; cases h1
  · rintro rfl; exact .refl _
theorem conn_cons : Conn (t :: ts) p q ↔ Conn ts p q ∨ (Conn ts p t.2.1 ∧ Conn ts t.2.2 q) ∨ (Conn ts p t.2.2 ∧ Conn ts t.2.1 q) := by
  constructor
  · intro h
    induction h with
    | refl => exact .inl (.refl _)
    | step _ e ih =>
      obtain ⟨s, hs, e⟩ := e
      rcases List.mem_cons.mp hs with rfl | hs
      · rcases e with ⟨rfl, rfl⟩ | ⟨rfl, rfl⟩
        · rcases ih with h | ⟨h, _⟩ | ⟨h, _⟩
          · exact .inr (.inl ⟨h, .refl _⟩)
          · exact .inr (.inl ⟨h, .refl _⟩)
          · exact .inl h
        · rcases ih with h | ⟨h, _⟩ | ⟨h, _⟩
          · exact .inr (.inr ⟨h, .refl _⟩)
          · exact .inl h
          · exact .inr (.inr ⟨h, .refl _⟩)
      · have e := Conn.one (ts := ts) ⟨s, hs, e⟩
        rcases ih with h | ⟨h, k⟩ | ⟨h, k⟩
        · exact .inl (h.trans e)
        · exact .inr (.inl ⟨h, k.trans e⟩)
        · exact .inr (.inr ⟨h, k.trans e⟩)
  · have up : ∀ {x y}, Conn ts x y → Conn (t :: ts) x y := fun h => h.sub fun _ => List.mem_cons_of_mem _
    have e : Conn (t :: ts) t.2.1 t.2.2 := .one ⟨t, List.mem_cons_self, .inl ⟨rfl, rfl⟩⟩
    rintro (h | ⟨h, k⟩ | ⟨h, k⟩)
    · exact up h
    · exact (up h).trans (e.trans (up k))
    · exact (up h).trans (e.symm.trans (up k))

/-! ### marks -/
def gx (ms : List Int) (a : Int) : Int := ms.getD a.toNat 0
structure MK (n : Int) (ms : List Int) (ts : List T3) : Prop where
  len : ms.length = n.toNat
  ker : ∀ a b, 0 ≤ a → a < n → 0 ≤ b → b < n → (gx ms a = gx ms b ↔ Conn ts a b)
theorem gx_map (f : Int → Int) (h0 : 0 ≤ a) (h1 : a.toNat < ms.length) : gx (ms.map f) a = f (gx ms a) := by
  unfold gx
  rw [List.getD_eq_getElem?_getD, List.getD_eq_getElem?_getD, List.getElem?_map, List.getElem?_eq_getElem h1]
  rfl
theorem gx_pl (h0 : 0 ≤ a) (h1 : a < n) : gx (pl n) a = a := by
  unfold gx pl
  rw [List.getD_eq_getElem?_getD, List.getElem?_map, List.getElem?_range (by omega)]
  show ((a.toNat : Nat) : Int) = a
  omega
theorem MK.zero : MK n (pl n) [] := ⟨pl_len n, fun a b a0 an b0 bn => by rw [gx_pl a0 an, gx_pl b0 bn, conn_nil]⟩
theorem MK.step (h : MK n ms ts) (a0 : 0 ≤ t.2.1) (a1 : t.2.1 < n) (b0 : 0 ≤ t.2.2) (b1 : t.2.2 < n) {x y : Int}
    (hxy : (x = gx ms t.2.1 ∧ y = gx ms t.2.2) ∨ (x = gx ms t.2.2 ∧ y = gx ms t.2.1)) : MK n (ms.map fun m => if m = x then y else m) (t :: ts) := by
  refine ⟨by rw [List.length_map]; exact h.len, fun p q p0 pn q0 qn => ?_⟩
  rw [gx_map _ p0 (by rw [h.len]; omega), gx_map _ q0 (by rw [h.len]; omega), conn_cons, ← h.ker p q p0 pn q0 qn, ← h.ker p _ p0 pn a0 a1, ← h.ker _ q b0 b1 q0 qn, ← h.ker p _ p0 pn b0 b1, ← h.ker _ q a0 a1 q0 qn]
  generalize gx ms p = u at *
  generalize gx ms q = v at *
  generalize gx ms t.2.1 = A at *
  generalize gx ms t.2.2 = B at *
  rcases hxy with ⟨rfl, rfl⟩ | ⟨rfl, rfl⟩
  · split <;> split <;> constructor <;> intro h <;> omega
  · split <;> split <;> constructor <;> intro h <;> omega
theorem MK.mem (h : MK n ms ts) (e : ∀ t, t ∈ ts ↔ t ∈ ts') : MK n ms ts' := ⟨h.len, fun a b a0 an b0 bn => (h.ker a b a0 an b0 bn).trans (conn_mem e)⟩

/-! ### layers -/
def layer (j : Int) (s : List T3) (ns : List Int) : List T3 := ((s.zip ns).filter fun p => p.2 == j).map (·.1)
open Classical in
noncomputable def fj (p : Nat → Prop) (lo : Nat) : Nat → Int
  | 0 => 0
  | m + 1 => if p lo then (lo : Int) + 1 else fj p (lo + 1) m
noncomputable def num (k : Nat) (s : List T3) (ns : List Int) (a b : Int) : Int := fj (fun j => ¬ Conn (layer ((j : Int) + 1) s ns) a b) 0 k
noncomputable def lay (k : Nat) : List T3 → List Int
  | [] => []
  | t :: s => num k s (lay k s) t.2.1 t.2.2 :: lay k s
theorem lay_len (k : Nat) : ∀ r, (lay k r).length = r.length
  | [] => rfl
  | t :: s => by unfold lay; rw [List.length_cons, List.length_cons, lay_len k s]
theorem lay_cons (k : Nat) (t : T3) (s : List T3) : lay k (t :: s) = num k s (lay k s) t.2.1 t.2.2 :: lay k s := rfl
theorem layer_cons (j x : Int) (t : T3) (s : List T3) (ns : List Int) : layer j (t :: s) (x :: ns) = if x = j then t :: layer j s ns else layer j s ns := by
  unfold layer
  rw [List.zip_cons_cons, List.filter_cons]
  by_cases h : x = j
  · simp [h]
  · simp [h]
theorem fj_zero (p : Nat → Prop) (lo : Nat) : fj p lo 0 = 0 := rfl
theorem fj_t {p : Nat → Prop} {lo : Nat} (m : Nat) (h : p lo) : fj p lo (m + 1) = (lo : Int) + 1 := by unfold fj; rw [if_pos h]
theorem fj_f {p : Nat → Prop} {lo : Nat} (m : Nat) (h : ¬ p lo) : fj p lo (m + 1) = fj p (lo + 1) m := by
  conv => lhs; unfold fj
  exact if_neg h
theorem fj_range (p : Nat → Prop) : ∀ (m lo : Nat), fj p lo m = 0 ∨ ((lo : Int) < fj p lo m ∧ fj p lo m ≤ (lo : Int) + m)
  | 0, _ => .inl rfl
  | m + 1, lo => by
    by_cases h : p lo
    · rw [fj_t m h]; exact .inr ⟨by omega, by omega⟩
    · rw [fj_f m h]
      rcases fj_range p m (lo + 1) with e | ⟨e1, e2⟩
      · exact .inl e
      · exact .inr ⟨by omega, by omega⟩
theorem fj_congr {p q : Nat → Prop} : ∀ (m lo : Nat), (∀ i, lo ≤ i → i < lo + m → (p i ↔ q i)) → fj p lo m = fj q lo m
  | 0, _, _ => rfl
  | m + 1, lo, h => by
    have e := fj_congr (p := p) (q := q) m (lo + 1) fun i h1 h2 => h i (by omega) (by omega)
    by_cases c : p lo
    · rw [fj_t m c, fj_t m ((h lo (by omega) (by omega)).mp c)]
    · rw [fj_f m c, fj_f m (fun z => c ((h lo (by omega) (by omega)).mpr z)), e]
theorem num_range (k : Nat) (s : List T3) (ns : List Int) (a b : Int) : 0 ≤ num k s ns a b ∧ num k s ns a b ≤ k := by
  unfold num
  rcases fj_range (fun j => ¬ Conn (layer ((j : Int) + 1) s ns) a b) k 0 with e | ⟨e1, e2⟩
  · rw [e]; omega
  · omega
theorem lay_range (k : Nat) : ∀ (r : List T3) (x : Int), x ∈ lay k r → 0 ≤ x ∧ x ≤ k
  | t :: s, x, h => by
    rw [lay_cons] at h
    rcases List.mem_cons.mp h with rfl | h
    · exact num_range k s _ _ _
    · exact lay_range k s x h
/-- the first row whose marks differ -/
def lfr (a b : Int) : List (List Int) → Nat → Int
  | [], _ => 0
  | ms :: rows, lo => if gx ms a = gx ms b then lfr a b rows (lo + 1) else (lo : Int) + 1
theorem lfr_fj (p : Nat → Prop) : ∀ (rows : List (List Int)) (lo : Nat), (∀ i (h : i < rows.length), gx rows[i] a = gx rows[i] b ↔ ¬ p (lo + i)) → lfr a b rows lo = fj p lo rows.length
  | [], _, _ => rfl
  | ms :: rows, lo, h => by
    have h0 := h 0 (by rw [List.length_cons]; omega)
    have e := lfr_fj p rows (lo + 1) fun i hi => by
      have := h (i + 1) (by rw [List.length_cons]; omega)
      rw [List.getElem_cons_succ] at this
      rw [this, show lo + 1 + i = lo + (i + 1) by omega]
    rw [List.getElem_cons_zero, Nat.add_zero] at h0
    unfold lfr
    rw [List.length_cons]
    by_cases c : gx ms a = gx ms b
    · rw [if_pos c, fj_f _ (h0.mp c), e]
    · rw [if_neg c, fj_t _ (Classical.byContradiction fun z => c (h0.mpr z))]
/-- the rows stand for the layers -/
structure RowsOk (n : Int) (k : Nat) (rows : List (List Int)) (s : List T3) : Prop where
  len : rows.length = k
  mkr : ∀ j (h : j < rows.length), MK n rows[j] (layer ((j : Int) + 1) s (lay k s))
theorem RowsOk.zero {k : Nat} : RowsOk n k (List.replicate k (pl n)) [] := ⟨List.length_replicate .., fun j h => by
  rw [List.getElem_replicate]
  exact MK.zero⟩
theorem RowsOk.num {k : Nat} {rows : List (List Int)} {s : List T3} (h : RowsOk n k rows s) (a0 : 0 ≤ a) (an : a < n) (b0 : 0 ≤ b) (bn : b < n) : lfr a b rows 0 = num k s (lay k s) a b := by
  rw [lfr_fj (fun j => ¬ Conn (layer ((j : Int) + 1) s (lay k s)) a b) rows 0 fun i hi => ?_, h.len]
  · rfl
  · rw [Nat.zero_add, Classical.not_not]
    exact (h.mkr i hi).ker a b a0 an b0 bn
theorem RowsOk.stay {k : Nat} {rows : List (List Int)} {s : List T3} (h : RowsOk n k rows s) (e : Lay.num k s (lay k s) t.2.1 t.2.2 = 0) : RowsOk n k rows (t :: s) := ⟨h.len, fun j hj => by
  rw [lay_cons, layer_cons, if_neg (by omega)]
  exact h.mkr j hj⟩
theorem RowsOk.put {k : Nat} {rows : List (List Int)} {s : List T3} (h : RowsOk n k rows s) (a0 : 0 ≤ t.2.1) (a1 : t.2.1 < n) (b0 : 0 ≤ t.2.2) (b1 : t.2.2 < n) {j : Nat} (hj : j < rows.length) (e : Lay.num k s (lay k s) t.2.1 t.2.2 = (j : Int) + 1) {x y : Int}
    (hxy : (x = gx rows[j] t.2.1 ∧ y = gx rows[j] t.2.2) ∨ (x = gx rows[j] t.2.2 ∧ y = gx rows[j] t.2.1)) : RowsOk n k (rows.set j (rows[j].map fun m => if m = x then y else m)) (t :: s) := ⟨by rw [List.length_set]; exact h.len, fun i hi => by
  rw [List.length_set] at hi
  rw [lay_cons, layer_cons, e]
  by_cases c : j = i
  · subst c
    rw [List.getElem_set_self, if_pos rfl]
    exact (h.mkr j hj).step a0 a1 b0 b1 hxy
  · rw [List.getElem_set_ne c, if_neg (by omega)]
    exact h.mkr i hi⟩
end
end Lay
end T_ConnP

section T_FamLP
set_option linter.all false
set_option maxRecDepth 100000
set_option maxHeartbeats 1000000
namespace FamL
open PySem Sim FamA Lay

def encI (ms : List Int) : Dt := .list (ms.map .int)
theorem hIx_gx {ms : List Int} {a : Int} (h0 : 0 ≤ a) (h1 : a.toNat < ms.length) : hIx (.list (ms.map .int)) (.int a) = .ok (.int (gx ms a)) := by
  rw [hIx_ints h0 (by omega)]
  unfold gx
  rw [List.getD_eq_getElem?_getD, List.getElem?_eq_getElem h1]
  rfl
theorem joined_ok {ms : List Int} {a b : Int} (a0 : 0 ≤ a) (a1 : a.toNat < ms.length) (b0 : 0 ≤ b) (b1 : b.toNat < ms.length) (hl : ms.length ≤ 1000) :
    ∃ x y, f_joined [encI ms, .int a, .int b] = .ok (encI (ms.map fun m => if m = x then y else m)) ∧ ((x = gx ms a ∧ y = gx ms b) ∨ (x = gx ms b ∧ y = gx ms a)) := by
  refine ⟨if gx ms b > gx ms a then gx ms b else gx ms a, if gx ms b < gx ms a then gx ms b else gx ms a, ?_, ?_⟩
  · refine fnL_rt ?_
    show g_joined [.list (ms.map .int), .int a, .int b, .none, .none, .none] = _
    unfold g_joined
    have i1 := hIx_gx a0 a1
    have i2 := hIx_gx b0 b1
    apply seq_step
    · simp (disch := first | omega | with_unfolding_all rfl | assumption | decide | (simp only [List.length_cons, List.length_nil]; omega)) only [bnd_ok, gVar_def, gC_def, gOp_def, gUn_def, gNil_def, gCons_def, gIf_def, gTest_def, gNot_def, gAnd_def, gOr_def, gAndV_def, gOrV_def, gNotV_def, gCB_def, asB_b, hAdd_i, hSub_i, hLt_i, hLe_i, hGt_i, hGe_i, hMul_r, hMul_l, hMod_i, hDiv_s, hBand_i, hShr_i, hPow_10_18, hPow_10_27, hPow_10_28, hPow_10_29, hPow_10_30, hEq_i, hNe_i, hLen_l, hLen_t, hMin2_i, hMax2_i, hMin3_i, hInt1_b, hInt1_i, hBits_i, hListOf_l, hListOf_t, hTupOf_l, hTupOf_t, gSeqS_def, gSet_def, gRet_def, gIfS_def, gNext_def, gTup_def, gLst_def, List.getElem?_cons_zero, List.getElem?_cons_succ, List.set_cons_zero, List.set_cons_succ, List.length_cons, List.length_nil, Nat.zero_add, Nat.reduceAdd, Nat.reduceLeDiff, Nat.reduceSub, Nat.reduceMul, if_true, if_false, Bool.false_eq_true, List.replicate_succ, List.replicate_zero, List.cons_append, List.nil_append, tgN, tgT, tgCons, tgNil, Int.reducePow, Int.reduceAdd, Int.reduceSub, Int.reduceMul, decide_true, decide_false, Bool.not_true, Bool.not_false, gChain_def, hIsa_int, hIsa_intb, hIsa_list, hIsa_tuple, gDrop_def, gCallN_def, gAsg_def, gSl_def, gNoPart_def, gPart_def, hSl_from', hSl_to', i1, i2]
      rfl
    apply seq_step
    · simp (disch := first | omega | with_unfolding_all rfl | assumption | decide | (simp only [List.length_cons, List.length_nil]; omega)) only [bnd_ok, gVar_def, gC_def, gOp_def, gUn_def, gNil_def, gCons_def, gIf_def, gTest_def, gNot_def, gAnd_def, gOr_def, gAndV_def, gOrV_def, gNotV_def, gCB_def, asB_b, hAdd_i, hSub_i, hLt_i, hLe_i, hGt_i, hGe_i, hMul_r, hMul_l, hMod_i, hDiv_s, hBand_i, hShr_i, hPow_10_18, hPow_10_27, hPow_10_28, hPow_10_29, hPow_10_30, hEq_i, hNe_i, hLen_l, hLen_t, hMin2_i, hMax2_i, hMin3_i, hInt1_b, hInt1_i, hBits_i, hListOf_l, hListOf_t, hTupOf_l, hTupOf_t, gSeqS_def, gSet_def, gRet_def, gIfS_def, gNext_def, gTup_def, gLst_def, List.getElem?_cons_zero, List.getElem?_cons_succ, List.set_cons_zero, List.set_cons_succ, List.length_cons, List.length_nil, Nat.zero_add, Nat.reduceAdd, Nat.reduceLeDiff, Nat.reduceSub, Nat.reduceMul, if_true, if_false, Bool.false_eq_true, List.replicate_succ, List.replicate_zero, List.cons_append, List.nil_append, tgN, tgT, tgCons, tgNil, Int.reducePow, Int.reduceAdd, Int.reduceSub, Int.reduceMul, decide_true, decide_false, Bool.not_true, Bool.not_false, gChain_def, hIsa_int, hIsa_intb, hIsa_list, hIsa_tuple, gDrop_def, gCallN_def, gAsg_def, gSl_def, gNoPart_def, gPart_def, hSl_from', hSl_to', i1, i2]
      rfl
    have h := gLc_map PyData.int (fun _ => true) (fun m => PyData.int (if m = (if gx ms b > gx ms a then gx ms b else gx ms a) then (if gx ms b < gx ms a then gx ms b else gx ms a) else m)) (gi := gSeq (gVar 0)) (h := tgN 5) (gt := gYes) (ge := gIf (gTest (gOp hEq (gVar 5) (gVar 4))) (gVar 3) (gVar 5))
      (ρ := [.list (ms.map .int), .int a, .int b, .int (if gx ms b < gx ms a then gx ms b else gx ms a), .int (if gx ms b > gx ms a then gx ms b else gx ms a), .none]) (xs := ms) rfl (by omega) (fun m _ => ⟨_, rfl, rfl, fun _ => by
        simp only [bnd_ok, gVar_def, gC_def, gOp_def, gUn_def, gNil_def, gCons_def, gIf_def, gTest_def, gNot_def, gAnd_def, gOr_def, gAndV_def, gOrV_def, gNotV_def, gCB_def, asB_b, hAdd_i, hSub_i, hLt_i, hLe_i, hGt_i, hGe_i, hMul_r, hMul_l, hMod_i, hDiv_s, hBand_i, hShr_i, hPow_10_18, hPow_10_27, hPow_10_28, hPow_10_29, hPow_10_30, hEq_i, hNe_i, hLen_l, hLen_t, hMin2_i, hMax2_i, hMin3_i, hInt1_b, hInt1_i, hBits_i, hListOf_l, hListOf_t, hTupOf_l, hTupOf_t, gSeqS_def, gSet_def, gRet_def, gIfS_def, gNext_def, gTup_def, gLst_def, List.getElem?_cons_zero, List.getElem?_cons_succ, List.set_cons_zero, List.set_cons_succ, List.length_cons, List.length_nil, Nat.zero_add, Nat.reduceAdd, Nat.reduceLeDiff, Nat.reduceSub, Nat.reduceMul, if_true, if_false, Bool.false_eq_true, List.replicate_succ, List.replicate_zero, List.cons_append, List.nil_append, tgN, tgT, tgCons, tgNil, Int.reducePow, Int.reduceAdd, Int.reduceSub, Int.reduceMul, decide_true, decide_false, Bool.not_true, Bool.not_false, gChain_def, hIsa_int, hIsa_intb, hIsa_list, hIsa_tuple, gDrop_def]
        by_cases c : m = (if gx ms b > gx ms a then gx ms b else gx ms a)
        · simp only [c, if_true, beq_self_eq_true]
        · simp only [c, if_false, beq_iff_eq]⟩)
    rw [List.filter_eq_self.mpr (fun _ _ => rfl)] at h
    have e : (ms.map fun m => PyData.int (if m = (if gx ms b > gx ms a then gx ms b else gx ms a) then (if gx ms b < gx ms a then gx ms b else gx ms a) else m)) = (ms.map fun m => if m = (if gx ms b > gx ms a then gx ms b else gx ms a) then (if gx ms b < gx ms a then gx ms b else gx ms a) else m).map PyData.int := by rw [List.map_map]; rfl
    simp only [gRet_def, gPurN_def, h, bnd_ok, pureIn, e, pureA_ints, if_true]
    rfl
  · by_cases c1 : gx ms b > gx ms a <;> by_cases c2 : gx ms b < gx ms a
    · omega
    · rw [if_pos c1, if_neg c2]; exact .inr ⟨rfl, rfl⟩
    · rw [if_neg c1, if_pos c2]; exact .inl ⟨rfl, rfl⟩
    · rw [if_neg c1, if_neg c2]; exact .inl ⟨rfl, by omega⟩
/-- a row with its number -/
def encP (p : List Int × Nat) : Dt := .tuple [.int (p.2 : Nat), encI p.1]
theorem lf_loop {a b : Int} {m : Nat} (M : Dt) (a0 : 0 ≤ a) (a1 : a.toNat < m) (b0 : 0 ≤ b) (b1 : b.toNat < m) : ∀ (rows : List (List Int)) (lo : Nat) (x y : Dt), (∀ ms ∈ rows, ms.length = m) →
    (forE (tgT (tgCons (tgN 3) (tgCons (tgN 4) (tgNil)))) g_layer_for_L1 ((rows.zipIdx lo).map encP) [M, .int a, .int b, x, y] = .ok (.rt (.int (lfr a b rows lo)))) ∨
      ((∃ x' y', forE (tgT (tgCons (tgN 3) (tgCons (tgN 4) (tgNil)))) g_layer_for_L1 ((rows.zipIdx lo).map encP) [M, .int a, .int b, x, y] = .ok (.nx [M, .int a, .int b, x', y'])) ∧ lfr a b rows lo = 0)
  | [], lo, x, y, _ => .inr ⟨⟨x, y, rfl⟩, rfl⟩
  | ms :: rows, lo, x, y, h => by
    have l := h ms List.mem_cons_self
    have i1 := hIx_gx (ms := ms) a0 (by omega)
    have i2 := hIx_gx (ms := ms) b0 (by omega)
    have ih := lf_loop M a0 a1 b0 b1 rows (lo + 1) (.int lo) (encI ms) fun ms hm => h ms (List.mem_cons_of_mem _ hm)
    rw [List.zipIdx_cons, List.map_cons]
    unfold forE
    have e1 : tgT (tgCons (tgN 3) (tgCons (tgN 4) (tgNil))) (encP (ms, lo)) [M, .int a, .int b, x, y] = .ok [M, .int a, .int b, .int lo, .list (ms.map .int)] := rfl
    have e2 : g_layer_for_L1 [M, .int a, .int b, .int lo, .list (ms.map .int)] = if gx ms a = gx ms b then .ok (.nx [M, .int a, .int b, .int lo, .list (ms.map .int)]) else .ok (.rt (.int ((lo : Int) + 1))) := by
      unfold g_layer_for_L1
      simp only [bnd_ok, gVar_def, gC_def, gOp_def, gUn_def, gNil_def, gCons_def, gIf_def, gTest_def, gNot_def, gAnd_def, gOr_def, gAndV_def, gOrV_def, gNotV_def, gCB_def, asB_b, hAdd_i, hSub_i, hLt_i, hLe_i, hGt_i, hGe_i, hMul_r, hMul_l, hMod_i, hDiv_s, hBand_i, hShr_i, hPow_10_18, hPow_10_27, hPow_10_28, hPow_10_29, hPow_10_30, hEq_i, hNe_i, hLen_l, hLen_t, hMin2_i, hMax2_i, hMin3_i, hInt1_b, hInt1_i, hBits_i, hListOf_l, hListOf_t, hTupOf_l, hTupOf_t, gSeqS_def, gSet_def, gRet_def, gIfS_def, gNext_def, gTup_def, gLst_def, List.getElem?_cons_zero, List.getElem?_cons_succ, List.set_cons_zero, List.set_cons_succ, List.length_cons, List.length_nil, Nat.zero_add, Nat.reduceAdd, Nat.reduceLeDiff, Nat.reduceSub, Nat.reduceMul, if_true, if_false, Bool.false_eq_true, List.replicate_succ, List.replicate_zero, List.cons_append, List.nil_append, tgN, tgT, tgCons, tgNil, Int.reducePow, Int.reduceAdd, Int.reduceSub, Int.reduceMul, decide_true, decide_false, Bool.not_true, Bool.not_false, gChain_def, hIsa_int, hIsa_intb, hIsa_list, hIsa_tuple, gDrop_def, i1, i2]
      by_cases c : gx ms a = gx ms b
      · simp [c]
      · simp [c]
    rw [e1]
    simp only [e2]
    unfold lfr
    by_cases c : gx ms a = gx ms b
    · rw [if_pos c, if_pos c]
      exact ih
    · rw [if_neg c, if_neg c]
      exact .inl rfl
theorem layer_for_ok {a b : Int} {m : Nat} {rows : List (List Int)} (a0 : 0 ≤ a) (a1 : a.toNat < m) (b0 : 0 ≤ b) (b1 : b.toNat < m) (h : ∀ ms ∈ rows, ms.length = m) : f_layer_for [.list (rows.map encI), .int a, .int b] = .ok (.int (lfr a b rows 0)) := by
  refine fnN_rt ?_
  show g_layer_for [.list (rows.map encI), .int a, .int b, .none, .none] = _
  unfold g_layer_for
  have e : gEnum (gCons (gVar 0) (gNil)) [.list (rows.map encI), .int a, .int b, .none, .none] = .ok ((rows.zipIdx 0).map encP) := by
    refine (enum_ok (es := rows.map encI) (by rfl)).trans ?_
    rw [enumD_map]
    rfl
  rcases lf_loop (.list (rows.map encI)) a0 a1 b0 b1 rows 0 .none .none h with q | ⟨⟨x, y, q⟩, z⟩
  · exact seq_rt (for_ok e q)
  · rw [z]
    exact seq_step (for_ok e q) rfl
theorem look_ok {k : Int} (k1 : 1 ≤ k) (k6 : k ≤ 6) : f_look_at_layers [.int k] = .ok .none := by
  have e1 : f_is_whole [.int k] = .ok (.bool true) := rfl
  have e2 : f_is_depth [.int k] = .ok (.bool true) := by
    refine fnN_rt ?_
    show g_is_depth [.int k] = _
    unfold g_is_depth
    simp only [bnd_ok, gVar_def, gC_def, gOp_def, gUn_def, gNil_def, gCons_def, gIf_def, gTest_def, gNot_def, gAnd_def, gOr_def, gAndV_def, gOrV_def, gNotV_def, gCB_def, asB_b, hAdd_i, hSub_i, hLt_i, hLe_i, hGt_i, hGe_i, hMul_r, hMul_l, hMod_i, hDiv_s, hBand_i, hShr_i, hPow_10_18, hPow_10_27, hPow_10_28, hPow_10_29, hPow_10_30, hEq_i, hNe_i, hLen_l, hLen_t, hMin2_i, hMax2_i, hMin3_i, hInt1_b, hInt1_i, hBits_i, hListOf_l, hListOf_t, hTupOf_l, hTupOf_t, gSeqS_def, gSet_def, gRet_def, gIfS_def, gNext_def, gTup_def, gLst_def, List.getElem?_cons_zero, List.getElem?_cons_succ, List.set_cons_zero, List.set_cons_succ, List.length_cons, List.length_nil, Nat.zero_add, Nat.reduceAdd, Nat.reduceLeDiff, Nat.reduceSub, Nat.reduceMul, if_true, if_false, Bool.false_eq_true, List.replicate_succ, List.replicate_zero, List.cons_append, List.nil_append, tgN, tgT, tgCons, tgNil, Int.reducePow, Int.reduceAdd, Int.reduceSub, Int.reduceMul, decide_true, decide_false, Bool.not_true, Bool.not_false, gChain_def, hIsa_int, hIsa_intb, hIsa_list, hIsa_tuple, gDrop_def, gCallN_def, gAsg_def, gSl_def, gNoPart_def, gPart_def, hSl_from', hSl_to', e1, k1, k6]
  refine fnN_nx (ρ := [.int k]) ?_
  show g_look_at_layers [.int k] = _
  unfold g_look_at_layers
  simp only [bnd_ok, gVar_def, gC_def, gOp_def, gUn_def, gNil_def, gCons_def, gIf_def, gTest_def, gNot_def, gAnd_def, gOr_def, gAndV_def, gOrV_def, gNotV_def, gCB_def, asB_b, hAdd_i, hSub_i, hLt_i, hLe_i, hGt_i, hGe_i, hMul_r, hMul_l, hMod_i, hDiv_s, hBand_i, hShr_i, hPow_10_18, hPow_10_27, hPow_10_28, hPow_10_29, hPow_10_30, hEq_i, hNe_i, hLen_l, hLen_t, hMin2_i, hMax2_i, hMin3_i, hInt1_b, hInt1_i, hBits_i, hListOf_l, hListOf_t, hTupOf_l, hTupOf_t, gSeqS_def, gSet_def, gRet_def, gIfS_def, gNext_def, gTup_def, gLst_def, List.getElem?_cons_zero, List.getElem?_cons_succ, List.set_cons_zero, List.set_cons_succ, List.length_cons, List.length_nil, Nat.zero_add, Nat.reduceAdd, Nat.reduceLeDiff, Nat.reduceSub, Nat.reduceMul, if_true, if_false, Bool.false_eq_true, List.replicate_succ, List.replicate_zero, List.cons_append, List.nil_append, tgN, tgT, tgCons, tgNil, Int.reducePow, Int.reduceAdd, Int.reduceSub, Int.reduceMul, decide_true, decide_false, Bool.not_true, Bool.not_false, gChain_def, hIsa_int, hIsa_intb, hIsa_list, hIsa_tuple, gDrop_def, gCallN_def, gAsg_def, gSl_def, gNoPart_def, gPart_def, hSl_from', hSl_to', e2]
/-- the ties lie among the places -/
def InN (n : Int) (r : List T3) : Prop := ∀ t ∈ r, (0 ≤ t.2.1 ∧ t.2.1 < n) ∧ 0 ≤ t.2.2 ∧ t.2.2 < n
theorem set_map_enc (rows : List (List Int)) (j : Nat) (ms : List Int) : (rows.map encI).set j (encI ms) = (rows.set j ms).map encI := (List.map_set ..).symm
theorem layered_ok {n : Int} {k : Nat} {r : List T3} (hr : InN n r) (hl : r.length ≤ 1000) (n1 : 1 ≤ n) (n10 : n ≤ 10) (k1 : 1 ≤ k) (k6 : k ≤ 6) :
    f_layered [.int n, .list (r.map enc3), .int (k : Nat)] = .ok (.list ((lay k r).map .int)) := by
  refine fnL_rt ?_
  show g_layered [.int n, .list (r.map enc3), .int (k : Nat), .none, .none, .none, .none, .none, .none] = _
  unfold g_layered
  have hlook := look_ok (k := k) (by omega) (by omega)
  have rg : ∀ x, gLsI (gRng1 (gCons (gVar 0) gNil)) [.int n, .list (r.map enc3), .int (k : Nat), .none, .int x, .none, .none, .none, .none] = .ok (encI (pl n)) := fun x => by
    rw [lsI_ok (ds := (pl n).map .int) (by rw [rng1_ok (show gCons (gVar 0) gNil _ = .ok [.int n] from rfl) (by omega) (by omega), rangeD_pl]) (by rw [List.length_map, pl_len]; omega)]
    rfl
  have hrows : gLc (gRng1 (gCons (gVar 2) (gNil))) (tgN 4) (gYes) (gLsI (gRng1 (gCons (gVar 0) gNil))) [.int n, .list (r.map enc3), .int (k : Nat), .none, .none, .none, .none, .none, .none] = .ok (.list ((List.replicate k (pl n)).map encI)) := by
    rw [gLc_map PyData.int (fun _ => true) (fun _ => encI (pl n)) (xs := pl k) (by rw [rng1_ok (show gCons (gVar 2) gNil _ = .ok [.int (k : Nat)] from rfl) (by omega) (by omega), rangeD_pl]) (by rw [pl_len]; omega) fun x _ => ⟨_, rfl, rfl, fun _ => rg x⟩]
    rw [List.filter_eq_self.mpr (fun _ _ => rfl), List.map_const', pl_len, List.map_replicate]
    rfl
  apply seq_step
  · simp (disch := first | omega | with_unfolding_all rfl | assumption | decide | (simp only [List.length_cons, List.length_nil]; omega)) only [bnd_ok, gVar_def, gC_def, gOp_def, gUn_def, gNil_def, gCons_def, gIf_def, gTest_def, gNot_def, gAnd_def, gOr_def, gAndV_def, gOrV_def, gNotV_def, gCB_def, asB_b, hAdd_i, hSub_i, hLt_i, hLe_i, hGt_i, hGe_i, hMul_r, hMul_l, hMod_i, hDiv_s, hBand_i, hShr_i, hPow_10_18, hPow_10_27, hPow_10_28, hPow_10_29, hPow_10_30, hEq_i, hNe_i, hLen_l, hLen_t, hMin2_i, hMax2_i, hMin3_i, hInt1_b, hInt1_i, hBits_i, hListOf_l, hListOf_t, hTupOf_l, hTupOf_t, gSeqS_def, gSet_def, gRet_def, gIfS_def, gNext_def, gTup_def, gLst_def, List.getElem?_cons_zero, List.getElem?_cons_succ, List.set_cons_zero, List.set_cons_succ, List.length_cons, List.length_nil, Nat.zero_add, Nat.reduceAdd, Nat.reduceLeDiff, Nat.reduceSub, Nat.reduceMul, if_true, if_false, Bool.false_eq_true, List.replicate_succ, List.replicate_zero, List.cons_append, List.nil_append, tgN, tgT, tgCons, tgNil, Int.reducePow, Int.reduceAdd, Int.reduceSub, Int.reduceMul, decide_true, decide_false, Bool.not_true, Bool.not_false, gChain_def, hIsa_int, hIsa_intb, hIsa_list, hIsa_tuple, gDrop_def, gCallN_def, gAsg_def, gSl_def, gNoPart_def, gPart_def, hSl_from', hSl_to', hlook]
    rfl
  apply seq_step
  · simp (disch := first | omega | with_unfolding_all rfl | assumption | decide | (simp only [List.length_cons, List.length_nil]; omega)) only [bnd_ok, gVar_def, gC_def, gOp_def, gUn_def, gNil_def, gCons_def, gIf_def, gTest_def, gNot_def, gAnd_def, gOr_def, gAndV_def, gOrV_def, gNotV_def, gCB_def, asB_b, hAdd_i, hSub_i, hLt_i, hLe_i, hGt_i, hGe_i, hMul_r, hMul_l, hMod_i, hDiv_s, hBand_i, hShr_i, hPow_10_18, hPow_10_27, hPow_10_28, hPow_10_29, hPow_10_30, hEq_i, hNe_i, hLen_l, hLen_t, hMin2_i, hMax2_i, hMin3_i, hInt1_b, hInt1_i, hBits_i, hListOf_l, hListOf_t, hTupOf_l, hTupOf_t, gSeqS_def, gSet_def, gRet_def, gIfS_def, gNext_def, gTup_def, gLst_def, List.getElem?_cons_zero, List.getElem?_cons_succ, List.set_cons_zero, List.set_cons_succ, List.length_cons, List.length_nil, Nat.zero_add, Nat.reduceAdd, Nat.reduceLeDiff, Nat.reduceSub, Nat.reduceMul, if_true, if_false, Bool.false_eq_true, List.replicate_succ, List.replicate_zero, List.cons_append, List.nil_append, tgN, tgT, tgCons, tgNil, Int.reducePow, Int.reduceAdd, Int.reduceSub, Int.reduceMul, decide_true, decide_false, Bool.not_true, Bool.not_false, gChain_def, hIsa_int, hIsa_intb, hIsa_list, hIsa_tuple, gDrop_def, gCallN_def, gAsg_def, gSl_def, gNoPart_def, gPart_def, hSl_from', hSl_to', hrows]
    rfl
  apply seq_step
  · simp (disch := first | omega | with_unfolding_all rfl | assumption | decide | (simp only [List.length_cons, List.length_nil]; omega)) only [bnd_ok, gVar_def, gC_def, gOp_def, gUn_def, gNil_def, gCons_def, gIf_def, gTest_def, gNot_def, gAnd_def, gOr_def, gAndV_def, gOrV_def, gNotV_def, gCB_def, asB_b, hAdd_i, hSub_i, hLt_i, hLe_i, hGt_i, hGe_i, hMul_r, hMul_l, hMod_i, hDiv_s, hBand_i, hShr_i, hPow_10_18, hPow_10_27, hPow_10_28, hPow_10_29, hPow_10_30, hEq_i, hNe_i, hLen_l, hLen_t, hMin2_i, hMax2_i, hMin3_i, hInt1_b, hInt1_i, hBits_i, hListOf_l, hListOf_t, hTupOf_l, hTupOf_t, gSeqS_def, gSet_def, gRet_def, gIfS_def, gNext_def, gTup_def, gLst_def, List.getElem?_cons_zero, List.getElem?_cons_succ, List.set_cons_zero, List.set_cons_succ, List.length_cons, List.length_nil, Nat.zero_add, Nat.reduceAdd, Nat.reduceLeDiff, Nat.reduceSub, Nat.reduceMul, if_true, if_false, Bool.false_eq_true, List.replicate_succ, List.replicate_zero, List.cons_append, List.nil_append, tgN, tgT, tgCons, tgNil, Int.reducePow, Int.reduceAdd, Int.reduceSub, Int.reduceMul, decide_true, decide_false, Bool.not_true, Bool.not_false, gChain_def, hIsa_int, hIsa_intb, hIsa_list, hIsa_tuple, gDrop_def, gCallN_def, gAsg_def, gSl_def, gNoPart_def, gPart_def, hSl_from', hSl_to', Nat.zero_le]
    rfl
  obtain ⟨ρ', hf, rows, x4, x6, x7, x8, rfl, hR⟩ := forE_ix enc3 (h := tgT (tgCons (tgN 6) (tgCons (tgN 7) (tgCons (tgN 8) (tgNil))))) (b := g_layered_L1) r.reverse
    (fun i ρ => ∃ rows x4 x6 x7 x8, ρ = [.int n, .list (r.map enc3), .int (k : Nat), .list (rows.map encI), x4, .list ((lay k (r.reverse.take i).reverse).reverse.map .int), x6, x7, x8] ∧ RowsOk n k rows (r.reverse.take i).reverse)
    (ρ := [.int n, .list (r.map enc3), .int (k : Nat), .list ((List.replicate k (pl n)).map encI), .none, .list [], .none, .none, .none]) ⟨_, _, _, _, _, rfl, RowsOk.zero⟩ (by
      rintro i ρ hi ⟨rows, x4, x6, x7, x8, rfl, hR⟩
      have ht := hr r.reverse[i] (List.mem_reverse.mp (List.getElem_mem hi))
      have es : (r.reverse.take (i + 1)).reverse = r.reverse[i] :: (r.reverse.take i).reverse := by
        rw [List.take_add_one, List.getElem?_eq_getElem hi, List.reverse_append]
        rfl
      rw [es, lay_cons]
      generalize hs : (r.reverse.take i).reverse = s at *
      have ls : s.length = i := by rw [← hs, List.length_reverse, List.length_take]; omega
      generalize r.reverse[i] = t at *
      obtain ⟨⟨a0, a1⟩, b0, b1⟩ := ht
      have hm : ∀ ms ∈ rows, ms.length = n.toNat := fun ms h => by
        obtain ⟨j, hj, e⟩ := List.getElem_of_mem h
        rw [← e]
        exact (hR.mkr j hj).len
      have e4 := layer_for_ok (rows := rows) a0 (by omega : t.2.1.toNat < n.toNat) b0 (by omega : t.2.2.toNat < n.toNat) hm
      have e5 := hR.num a0 a1 b0 b1
      rw [e5] at e4
      obtain ⟨c0, c1⟩ := num_range k s (lay k s) t.2.1 t.2.2
      have lrev : ((lay k s).reverse.map PyData.int).length < 100000 := by
        rw [List.length_map, List.length_reverse, lay_len]
        rw [List.length_reverse] at hi
        omega
      have eapp : ∀ x : Int, (lay k s).reverse.map PyData.int ++ [.int x] = (x :: lay k s).reverse.map PyData.int := fun x => by rw [List.reverse_cons, List.map_append]; rfl
      have etg : tgT (tgCons (tgN 6) (tgCons (tgN 7) (tgCons (tgN 8) (tgNil)))) (enc3 t) [.int n, .list (r.map enc3), .int (k : Nat), .list (rows.map encI), x4, .list ((lay k s).reverse.map .int), x6, x7, x8] = .ok [.int n, .list (r.map enc3), .int (k : Nat), .list (rows.map encI), x4, .list ((lay k s).reverse.map .int), .int t.1, .int t.2.1, .int t.2.2] := rfl
      by_cases c : num k s (lay k s) t.2.1 t.2.2 = 0
      · refine ⟨_, _, etg, .inl ?_, rows, .int 0, .int t.1, .int t.2.1, .int t.2.2, rfl, hR.stay c⟩
        unfold g_layered_L1
        rw [c] at e4 ⊢
        apply seq_step
        · simp (disch := first | omega | with_unfolding_all rfl | assumption | decide | (simp only [List.length_cons, List.length_nil]; omega)) only [bnd_ok, gVar_def, gC_def, gOp_def, gUn_def, gNil_def, gCons_def, gIf_def, gTest_def, gNot_def, gAnd_def, gOr_def, gAndV_def, gOrV_def, gNotV_def, gCB_def, asB_b, hAdd_i, hSub_i, hLt_i, hLe_i, hGt_i, hGe_i, hMul_r, hMul_l, hMod_i, hDiv_s, hBand_i, hShr_i, hPow_10_18, hPow_10_27, hPow_10_28, hPow_10_29, hPow_10_30, hEq_i, hNe_i, hLen_l, hLen_t, hMin2_i, hMax2_i, hMin3_i, hInt1_b, hInt1_i, hBits_i, hListOf_l, hListOf_t, hTupOf_l, hTupOf_t, gSeqS_def, gSet_def, gRet_def, gIfS_def, gNext_def, gTup_def, gLst_def, List.getElem?_cons_zero, List.getElem?_cons_succ, List.set_cons_zero, List.set_cons_succ, List.length_cons, List.length_nil, Nat.zero_add, Nat.reduceAdd, Nat.reduceLeDiff, Nat.reduceSub, Nat.reduceMul, if_true, if_false, Bool.false_eq_true, List.replicate_succ, List.replicate_zero, List.cons_append, List.nil_append, tgN, tgT, tgCons, tgNil, Int.reducePow, Int.reduceAdd, Int.reduceSub, Int.reduceMul, decide_true, decide_false, Bool.not_true, Bool.not_false, gChain_def, hIsa_int, hIsa_intb, hIsa_list, hIsa_tuple, gDrop_def, gCallN_def, gAsg_def, gSl_def, gNoPart_def, gPart_def, hSl_from', hSl_to', e4]
          rfl
        apply seq_step
        · simp (disch := first | omega | with_unfolding_all rfl | assumption | decide | (simp only [List.length_cons, List.length_nil]; omega)) only [bnd_ok, gVar_def, gC_def, gOp_def, gUn_def, gNil_def, gCons_def, gIf_def, gTest_def, gNot_def, gAnd_def, gOr_def, gAndV_def, gOrV_def, gNotV_def, gCB_def, asB_b, hAdd_i, hSub_i, hLt_i, hLe_i, hGt_i, hGe_i, hMul_r, hMul_l, hMod_i, hDiv_s, hBand_i, hShr_i, hPow_10_18, hPow_10_27, hPow_10_28, hPow_10_29, hPow_10_30, hEq_i, hNe_i, hLen_l, hLen_t, hMin2_i, hMax2_i, hMin3_i, hInt1_b, hInt1_i, hBits_i, hListOf_l, hListOf_t, hTupOf_l, hTupOf_t, gSeqS_def, gSet_def, gRet_def, gIfS_def, gNext_def, gTup_def, gLst_def, List.getElem?_cons_zero, List.getElem?_cons_succ, List.set_cons_zero, List.set_cons_succ, List.length_cons, List.length_nil, Nat.zero_add, Nat.reduceAdd, Nat.reduceLeDiff, Nat.reduceSub, Nat.reduceMul, if_true, if_false, Bool.false_eq_true, List.replicate_succ, List.replicate_zero, List.cons_append, List.nil_append, tgN, tgT, tgCons, tgNil, Int.reducePow, Int.reduceAdd, Int.reduceSub, Int.reduceMul, decide_true, decide_false, Bool.not_true, Bool.not_false, gChain_def, hIsa_int, hIsa_intb, hIsa_list, hIsa_tuple, gDrop_def, gCallN_def, gAsg_def, gSl_def, gNoPart_def, gPart_def, hSl_from', hSl_to', Int.lt_irrefl]
          rfl
        rw [gApp_l rfl rfl lrev, eapp]
        rfl
      · obtain ⟨j, ej⟩ : ∃ j : Nat, num k s (lay k s) t.2.1 t.2.2 = (j : Int) + 1 := ⟨(num k s (lay k s) t.2.1 t.2.2 - 1).toNat, by omega⟩
        have hj : j < rows.length := by rw [hR.len]; omega
        have lj := (hR.mkr j hj).len
        obtain ⟨x, y, hj1, hj2⟩ := joined_ok (ms := rows[j]) a0 (by omega : t.2.1.toNat < rows[j].length) b0 (by omega) (by omega)
        refine ⟨_, _, etg, .inl ?_, _, .int ((j : Int) + 1), .int t.1, .int t.2.1, .int t.2.2, rfl, hR.put a0 a1 b0 b1 hj ej hj2⟩
        unfold g_layered_L1
        rw [ej] at e4 ⊢
        have p1 : (0 : Int) < (j : Int) + 1 := by omega
        have es : (j : Int) + 1 - 1 = (j : Int) := by omega
        have eix : hIx (.list (rows.map encI)) (.int (j : Int)) = .ok (encI rows[j]) := hIx_l (by rw [atI_map _ (by omega) (by omega)]; rfl)
        apply seq_step
        · simp (disch := first | omega | with_unfolding_all rfl | assumption | decide | (simp only [List.length_cons, List.length_nil]; omega)) only [bnd_ok, gVar_def, gC_def, gOp_def, gUn_def, gNil_def, gCons_def, gIf_def, gTest_def, gNot_def, gAnd_def, gOr_def, gAndV_def, gOrV_def, gNotV_def, gCB_def, asB_b, hAdd_i, hSub_i, hLt_i, hLe_i, hGt_i, hGe_i, hMul_r, hMul_l, hMod_i, hDiv_s, hBand_i, hShr_i, hPow_10_18, hPow_10_27, hPow_10_28, hPow_10_29, hPow_10_30, hEq_i, hNe_i, hLen_l, hLen_t, hMin2_i, hMax2_i, hMin3_i, hInt1_b, hInt1_i, hBits_i, hListOf_l, hListOf_t, hTupOf_l, hTupOf_t, gSeqS_def, gSet_def, gRet_def, gIfS_def, gNext_def, gTup_def, gLst_def, List.getElem?_cons_zero, List.getElem?_cons_succ, List.set_cons_zero, List.set_cons_succ, List.length_cons, List.length_nil, Nat.zero_add, Nat.reduceAdd, Nat.reduceLeDiff, Nat.reduceSub, Nat.reduceMul, if_true, if_false, Bool.false_eq_true, List.replicate_succ, List.replicate_zero, List.cons_append, List.nil_append, tgN, tgT, tgCons, tgNil, Int.reducePow, Int.reduceAdd, Int.reduceSub, Int.reduceMul, decide_true, decide_false, Bool.not_true, Bool.not_false, gChain_def, hIsa_int, hIsa_intb, hIsa_list, hIsa_tuple, gDrop_def, gCallN_def, gAsg_def, gSl_def, gNoPart_def, gPart_def, hSl_from', hSl_to', e4]
          rfl
        apply seq_step
        · rw [if_t (by simp only [bnd_ok, gVar_def, gC_def, gOp_def, gUn_def, gNil_def, gCons_def, gIf_def, gTest_def, gNot_def, gAnd_def, gOr_def, gAndV_def, gOrV_def, gNotV_def, gCB_def, asB_b, hAdd_i, hSub_i, hLt_i, hLe_i, hGt_i, hGe_i, hMul_r, hMul_l, hMod_i, hDiv_s, hBand_i, hShr_i, hPow_10_18, hPow_10_27, hPow_10_28, hPow_10_29, hPow_10_30, hEq_i, hNe_i, hLen_l, hLen_t, hMin2_i, hMax2_i, hMin3_i, hInt1_b, hInt1_i, hBits_i, hListOf_l, hListOf_t, hTupOf_l, hTupOf_t, gSeqS_def, gSet_def, gRet_def, gIfS_def, gNext_def, gTup_def, gLst_def, List.getElem?_cons_zero, List.getElem?_cons_succ, List.set_cons_zero, List.set_cons_succ, List.length_cons, List.length_nil, Nat.zero_add, Nat.reduceAdd, Nat.reduceLeDiff, Nat.reduceSub, Nat.reduceMul, if_true, if_false, Bool.false_eq_true, List.replicate_succ, List.replicate_zero, List.cons_append, List.nil_append, tgN, tgT, tgCons, tgNil, Int.reducePow, Int.reduceAdd, Int.reduceSub, Int.reduceMul, decide_true, decide_false, Bool.not_true, Bool.not_false, gChain_def, hIsa_int, hIsa_intb, hIsa_list, hIsa_tuple, gDrop_def, p1])]
          refine setI_ok (ds := rows.map encI) (d := encI (rows[j].map fun m => if m = x then y else m)) (j := (j : Int)) ?_ rfl ?_ (by omega) (by rw [List.length_map]; omega)
          · simp only [bnd_ok, gVar_def, gC_def, gOp_def, gUn_def, gNil_def, gCons_def, gIf_def, gTest_def, gNot_def, gAnd_def, gOr_def, gAndV_def, gOrV_def, gNotV_def, gCB_def, asB_b, hAdd_i, hSub_i, hLt_i, hLe_i, hGt_i, hGe_i, hMul_r, hMul_l, hMod_i, hDiv_s, hBand_i, hShr_i, hPow_10_18, hPow_10_27, hPow_10_28, hPow_10_29, hPow_10_30, hEq_i, hNe_i, hLen_l, hLen_t, hMin2_i, hMax2_i, hMin3_i, hInt1_b, hInt1_i, hBits_i, hListOf_l, hListOf_t, hTupOf_l, hTupOf_t, gSeqS_def, gSet_def, gRet_def, gIfS_def, gNext_def, gTup_def, gLst_def, List.getElem?_cons_zero, List.getElem?_cons_succ, List.set_cons_zero, List.set_cons_succ, List.length_cons, List.length_nil, Nat.zero_add, Nat.reduceAdd, Nat.reduceLeDiff, Nat.reduceSub, Nat.reduceMul, if_true, if_false, Bool.false_eq_true, List.replicate_succ, List.replicate_zero, List.cons_append, List.nil_append, tgN, tgT, tgCons, tgNil, Int.reducePow, Int.reduceAdd, Int.reduceSub, Int.reduceMul, decide_true, decide_false, Bool.not_true, Bool.not_false, gChain_def, hIsa_int, hIsa_intb, hIsa_list, hIsa_tuple, gDrop_def, gCallN_def, gAsg_def, gSl_def, gNoPart_def, gPart_def, hSl_from', hSl_to', es, eix, hj1]
          · simp only [bnd_ok, gVar_def, gC_def, gOp_def, gUn_def, gNil_def, gCons_def, gIf_def, gTest_def, gNot_def, gAnd_def, gOr_def, gAndV_def, gOrV_def, gNotV_def, gCB_def, asB_b, hAdd_i, hSub_i, hLt_i, hLe_i, hGt_i, hGe_i, hMul_r, hMul_l, hMod_i, hDiv_s, hBand_i, hShr_i, hPow_10_18, hPow_10_27, hPow_10_28, hPow_10_29, hPow_10_30, hEq_i, hNe_i, hLen_l, hLen_t, hMin2_i, hMax2_i, hMin3_i, hInt1_b, hInt1_i, hBits_i, hListOf_l, hListOf_t, hTupOf_l, hTupOf_t, gSeqS_def, gSet_def, gRet_def, gIfS_def, gNext_def, gTup_def, gLst_def, List.getElem?_cons_zero, List.getElem?_cons_succ, List.set_cons_zero, List.set_cons_succ, List.length_cons, List.length_nil, Nat.zero_add, Nat.reduceAdd, Nat.reduceLeDiff, Nat.reduceSub, Nat.reduceMul, if_true, if_false, Bool.false_eq_true, List.replicate_succ, List.replicate_zero, List.cons_append, List.nil_append, tgN, tgT, tgCons, tgNil, Int.reducePow, Int.reduceAdd, Int.reduceSub, Int.reduceMul, decide_true, decide_false, Bool.not_true, Bool.not_false, gChain_def, hIsa_int, hIsa_intb, hIsa_list, hIsa_tuple, gDrop_def, es]
        · rw [Int.toNat_natCast, set_map_enc]
          simp only [bnd_ok, gVar_def, gC_def, gOp_def, gUn_def, gNil_def, gCons_def, gIf_def, gTest_def, gNot_def, gAnd_def, gOr_def, gAndV_def, gOrV_def, gNotV_def, gCB_def, asB_b, hAdd_i, hSub_i, hLt_i, hLe_i, hGt_i, hGe_i, hMul_r, hMul_l, hMod_i, hDiv_s, hBand_i, hShr_i, hPow_10_18, hPow_10_27, hPow_10_28, hPow_10_29, hPow_10_30, hEq_i, hNe_i, hLen_l, hLen_t, hMin2_i, hMax2_i, hMin3_i, hInt1_b, hInt1_i, hBits_i, hListOf_l, hListOf_t, hTupOf_l, hTupOf_t, gSeqS_def, gSet_def, gRet_def, gIfS_def, gNext_def, gTup_def, gLst_def, List.getElem?_cons_zero, List.getElem?_cons_succ, List.set_cons_zero, List.set_cons_succ, List.length_cons, List.length_nil, Nat.zero_add, Nat.reduceAdd, Nat.reduceLeDiff, Nat.reduceSub, Nat.reduceMul, if_true, if_false, Bool.false_eq_true, List.replicate_succ, List.replicate_zero, List.cons_append, List.nil_append, tgN, tgT, tgCons, tgNil, Int.reducePow, Int.reduceAdd, Int.reduceSub, Int.reduceMul, decide_true, decide_false, Bool.not_true, Bool.not_false, gChain_def, hIsa_int, hIsa_intb, hIsa_list, hIsa_tuple, gDrop_def]
          rw [gApp_l rfl rfl lrev, eapp]
          rfl)
  refine seq_step (for_ok (ds := r.reverse.map enc3) ?_ hf) ?_
  · refine (rev_ok (es := r.map enc3) (by rfl)).trans ?_
    rw [List.map_reverse]
  · rw [List.take_length, List.reverse_reverse] 
    refine ret_ok ?_
    refine (lsI_ok (rev_ok (es := (lay k r).reverse.map .int) (by rfl)) (by rw [List.length_reverse, List.length_map, List.length_reverse, lay_len]; omega)).trans ?_
    rw [← List.map_reverse, List.reverse_reverse]
theorem depth_ok {x : Int} (h0 : 0 ≤ x) : ∃ k : Nat, f_l_depth [.int x] = .ok (.int (k : Nat)) ∧ 1 ≤ k ∧ k ≤ 6 := by
  have h : f_l_depth [.int x] = .ok (.int (if x % 8 = 1 then 1 + x / 32 % 6 else 1 + x % 4)) := by
    refine fnN_rt ?_
    show g_l_depth [.int x] = _
    unfold g_l_depth
    by_cases c : x % 8 = 1
    · have e : (x % 8 == 1) = true := by simp [c]
      have e2 : hIx (.list [.int (1 + x % 4), .int (1 + x / 32 % 6)]) (.int 1) = .ok (.int (1 + x / 32 % 6)) := rfl
      rw [if_pos c]
      simp (disch := first | omega | decide) only [bnd_ok, gVar_def, gC_def, gOp_def, gUn_def, gNil_def, gCons_def, gIf_def, gTest_def, gNot_def, gAnd_def, gOr_def, gAndV_def, gOrV_def, gNotV_def, gCB_def, asB_b, hAdd_i, hSub_i, hLt_i, hLe_i, hGt_i, hGe_i, hMul_r, hMul_l, hMod_i, hDiv_s, hBand_i, hShr_i, hPow_10_18, hPow_10_27, hPow_10_28, hPow_10_29, hPow_10_30, hEq_i, hNe_i, hLen_l, hLen_t, hMin2_i, hMax2_i, hMin3_i, hInt1_b, hInt1_i, hBits_i, hListOf_l, hListOf_t, hTupOf_l, hTupOf_t, gSeqS_def, gSet_def, gRet_def, gIfS_def, gNext_def, gTup_def, gLst_def, List.getElem?_cons_zero, List.getElem?_cons_succ, List.set_cons_zero, List.set_cons_succ, List.length_cons, List.length_nil, Nat.zero_add, Nat.reduceAdd, Nat.reduceLeDiff, Nat.reduceSub, Nat.reduceMul, if_true, if_false, Bool.false_eq_true, List.replicate_succ, List.replicate_zero, List.cons_append, List.nil_append, tgN, tgT, tgCons, tgNil, Int.reducePow, Int.reduceAdd, Int.reduceSub, Int.reduceMul, decide_true, decide_false, Bool.not_true, Bool.not_false, gChain_def, hIsa_int, hIsa_intb, hIsa_list, hIsa_tuple, gDrop_def, e, e2]
    · have e : (x % 8 == 1) = false := by simp [c]
      have e2 : hIx (.list [.int (1 + x % 4), .int (1 + x / 32 % 6)]) (.int 0) = .ok (.int (1 + x % 4)) := rfl
      rw [if_neg c]
      simp (disch := first | omega | decide) only [bnd_ok, gVar_def, gC_def, gOp_def, gUn_def, gNil_def, gCons_def, gIf_def, gTest_def, gNot_def, gAnd_def, gOr_def, gAndV_def, gOrV_def, gNotV_def, gCB_def, asB_b, hAdd_i, hSub_i, hLt_i, hLe_i, hGt_i, hGe_i, hMul_r, hMul_l, hMod_i, hDiv_s, hBand_i, hShr_i, hPow_10_18, hPow_10_27, hPow_10_28, hPow_10_29, hPow_10_30, hEq_i, hNe_i, hLen_l, hLen_t, hMin2_i, hMax2_i, hMin3_i, hInt1_b, hInt1_i, hBits_i, hListOf_l, hListOf_t, hTupOf_l, hTupOf_t, gSeqS_def, gSet_def, gRet_def, gIfS_def, gNext_def, gTup_def, gLst_def, List.getElem?_cons_zero, List.getElem?_cons_succ, List.set_cons_zero, List.set_cons_succ, List.length_cons, List.length_nil, Nat.zero_add, Nat.reduceAdd, Nat.reduceLeDiff, Nat.reduceSub, Nat.reduceMul, if_true, if_false, Bool.false_eq_true, List.replicate_succ, List.replicate_zero, List.cons_append, List.nil_append, tgN, tgT, tgCons, tgNil, Int.reducePow, Int.reduceAdd, Int.reduceSub, Int.reduceMul, decide_true, decide_false, Bool.not_true, Bool.not_false, gChain_def, hIsa_int, hIsa_intb, hIsa_list, hIsa_tuple, gDrop_def, e, e2]
  refine ⟨(if x % 8 = 1 then 1 + x / 32 % 6 else 1 + x % 4).toNat, ?_, ?_, ?_⟩
  · rw [h]
    congr 2
    split <;> omega
  · split <;> omega
  · split <;> omega
end FamL
end T_FamLP

section T_LoopP
set_option linter.all false
set_option maxRecDepth 100000
/-! LoopP: loops that tell False at the first item that is not right. -/
namespace Sim
open PySem

theorem forE_all {α : Type} (enc : α → Dt) {h : Dt → List Dt → O (List Dt)} {b : Gs} (c : α → Prop) (I : List Dt → Prop) : ∀ (xs : List α) (ρ : List Dt), I ρ →
    (∀ x ∈ xs, ∀ ρ, I ρ → ∃ ρ1, h (enc x) ρ = .ok ρ1 ∧ ((c x ∧ ∃ ρ2, b ρ1 = .ok (.nx ρ2) ∧ I ρ2) ∨ (¬ c x ∧ b ρ1 = .ok (.rt (.bool false))))) →
    ((∀ x ∈ xs, c x) ∧ ∃ ρ', forE h b (xs.map enc) ρ = .ok (.nx ρ') ∧ I ρ') ∨ ((∃ x ∈ xs, ¬ c x) ∧ forE h b (xs.map enc) ρ = .ok (.rt (.bool false)))
  | [], ρ, h0, _ => .inl ⟨fun x hx => (List.not_mem_nil hx).elim, ρ, rfl, h0⟩
  | x :: xs, ρ, h0, H => by
    obtain ⟨ρ1, e1, hb⟩ := H x List.mem_cons_self ρ h0
    rw [List.map_cons]
    rcases hb with ⟨hc, ρ2, e2, h2⟩ | ⟨hc, e2⟩
    · have e : forE h b (enc x :: xs.map enc) ρ = forE h b (xs.map enc) ρ2 := by
        conv => lhs; unfold forE
        rw [e1]
        simp only [bnd_ok, e2]
      rcases forE_all enc c I xs ρ2 h2 (fun y hy => H y (List.mem_cons_of_mem _ hy)) with ⟨hA, ρ', e3, h3⟩ | ⟨⟨y, hy, hn⟩, e3⟩
      · exact .inl ⟨fun y hy => (List.mem_cons.mp hy).elim (fun z => z ▸ hc) (hA y), ρ', e.trans e3, h3⟩
      · exact .inr ⟨⟨y, List.mem_cons_of_mem _ hy, hn⟩, e.trans e3⟩
    · refine .inr ⟨⟨x, List.mem_cons_self, hc⟩, ?_⟩
      unfold forE
      rw [e1]
      simp only [bnd_ok, e2]
end Sim
end T_LoopP

section T_LayIff
set_option linter.all false
set_option maxRecDepth 100000
/-! LayIff: the layers' numbers, told tie by tie. -/
namespace Lay
open PySem Sim FamA

theorem fj_spec {p : Nat → Prop} : ∀ (m lo : Nat), (fj p lo m = 0 ∧ ∀ i, i < m → ¬ p (lo + i)) ∨ (∃ i, i < m ∧ fj p lo m = (lo : Int) + i + 1 ∧ p (lo + i) ∧ ∀ i', i' < i → ¬ p (lo + i'))
  | 0, lo => .inl ⟨rfl, fun i hi => by omega⟩
  | m + 1, lo => by
    by_cases h : p lo
    · exact .inr ⟨0, by omega, by rw [fj_t m h]; omega, h, fun i hi => by omega⟩
    · rw [fj_f m h]
      have sh : ∀ i, lo + 1 + i = lo + (i + 1) := fun i => by omega
      rcases fj_spec (p := p) m (lo + 1) with ⟨e, q⟩ | ⟨i, hi, e, q, r⟩
      · refine .inl ⟨e, fun i hi => ?_⟩
        cases i with
        | zero => exact h
        | succ i => rw [← sh]; exact q i (by omega)
      · refine .inr ⟨i + 1, by omega, by rw [e]; omega, by rw [← sh]; exact q, fun i' hi' => ?_⟩
        cases i' with
        | zero => exact h
        | succ i' => rw [← sh]; exact r i' (by omega)
/-- a number is right -/
def DueP (k : Nat) (met : Nat → Prop) (x : Int) : Prop := 0 ≤ x ∧ x ≤ k ∧ ∀ i, i < k → (((i : Int) + 1 ≤ (if x = 0 then (k : Int) else x - 1)) → met i) ∧ ((i : Int) + 1 = x → ¬ met i)
theorem due_iff {k : Nat} {met : Nat → Prop} {x : Int} : DueP k met x ↔ x = fj (fun j => ¬ met j) 0 k := by
  rcases fj_spec (p := fun j => ¬ met j) k 0 with ⟨e, q⟩ | ⟨i, hi, e, q, r⟩
  · simp only [Nat.zero_add, Classical.not_not] at q
    rw [e]
    constructor
    · rintro ⟨x0, xk, D⟩
      refine Classical.byContradiction fun hx => ?_
      have := (D (x - 1).toNat (by omega)).2 (by omega)
      exact this (q _ (by omega))
    · rintro rfl
      exact ⟨by omega, by omega, fun i hi => ⟨fun _ => q i hi, fun z => by omega⟩⟩
  · simp only [Nat.zero_add, Classical.not_not] at q r
    rw [e]
    constructor
    · rintro ⟨x0, xk, D⟩
      by_cases h0 : x = 0
      · exact absurd ((D i hi).1 (by rw [if_pos h0]; omega)) q
      · by_cases h1 : x < (i : Int) + 1
        · exact absurd (r (x - 1).toNat (by omega)) ((D (x - 1).toNat (by omega)).2 (by omega))
        · by_cases h2 : (i : Int) + 1 < x
          · exact absurd ((D i hi).1 (by rw [if_neg h0]; omega)) q
          · omega
    · intro hx
      refine ⟨by omega, by omega, fun j hj => ⟨fun z => ?_, fun z => ?_⟩⟩
      · rw [if_neg (by omega)] at z
        exact r j (by omega)
      · have : j = i := by omega
        rw [this]
        exact q
theorem lay_iff (k : Nat) : ∀ (r : List T3) (ns : List Int), ns.length = r.length → (ns = lay k r ↔ ∀ p (hp : p < r.length) (hq : p < ns.length), ns[p] = num k (r.drop (p + 1)) (ns.drop (p + 1)) r[p].2.1 r[p].2.2)
  | [], [], _ => ⟨fun _ p hp => absurd hp (Nat.not_lt_zero _), fun _ => rfl⟩
  | t :: s, x :: ns, h => by
    have ih := lay_iff k s ns (by simpa using h)
    rw [lay_cons]
    constructor
    · intro e
      injection e with e1 e2
      intro p hp hq
      cases p with
      | zero =>
        show x = num k s ns t.2.1 t.2.2
        rw [e1, ← e2]
      | succ p => exact ih.mp e2 p (by simpa using hp) (by simpa using hq)
    · intro D
      have e2 := ih.mpr fun p hp hq => D (p + 1) (by simpa using hp) (by simpa using hq)
      have e1 : x = num k s ns t.2.1 t.2.2 := D 0 (by simp) (by simp)
      rw [← e2, ← e1]
theorem lay_app (k : Nat) (v : List T3) : ∀ u : List T3, ∃ w, lay k (u ++ v) = w ++ lay k v ∧ w.length = u.length
  | [] => ⟨[], rfl, rfl⟩
  | t :: u => by
    obtain ⟨w, e, l⟩ := lay_app k v u
    rw [List.cons_append, lay_cons, e]
    exact ⟨_ :: w, rfl, by rw [List.length_cons, List.length_cons, l]⟩
end Lay
end T_LayIff

section T_LeP
set_option linter.all false
set_option maxRecDepth 100000
/-! LeP: a closure that raises says all that the one without refusals says. -/
namespace Sim
open PySem
def OLe {α : Type} (a b : O α) : Prop := ∀ r, a = .ok r → b = .ok r
def Gle {α : Type} (a b : List Dt → O α) : Prop := ∀ ρ, OLe (a ρ) (b ρ)
theorem OLe.refl {α : Type} (a : O α) : OLe a a := fun _ h => h
theorem gle_refl {α : Type} {a : List Dt → O α} : Gle a a := fun _ _ h => h
theorem ole_bnd {α β : Type} {a a' : O α} {f f' : α → O β} (h : OLe a a') (k : ∀ x, OLe (f x) (f' x)) : OLe (bnd a f) (bnd a' f') := fun r e => by
  cases ea : a with
  | bad => rw [ea] at e; cases e
  | ex z => rw [ea] at e; cases e
  | ok x =>
    rw [ea, bnd_ok] at e
    rw [h x ea, bnd_ok]
    exact k x r e
theorem gle_bad {b : Gs} : Gle gBad b := fun _ _ h => nomatch h
theorem gle_seq {a a' b b' : Gs} (h : Gle a a') (k : Gle b b') : Gle (gSeqS a b) (gSeqS a' b') := fun ρ r e => by
  unfold gSeqS at e ⊢
  cases ea : a ρ with
  | bad => rw [ea] at e; cases e
  | ex z => rw [ea] at e; cases e
  | ok fl =>
    rw [ea] at e
    rw [h ρ fl ea]
    cases fl with
    | nx ρ' => exact k ρ' r e
    | rt d => exact e
    | bk ρ' => exact e
    | ct ρ' => exact e
theorem gle_if {t t' : List Dt → O Bool} {a a' b b' : Gs} (ht : Gle t t') (h : Gle a a') (k : Gle b b') : Gle (gIfS t a b) (gIfS t' a' b') := fun ρ => ole_bnd (ht ρ) fun c => by
  cases c with
  | true => exact h ρ
  | false => exact k ρ
theorem gle_set {i : Nat} {a a' : Gd} (h : Gle a a') : Gle (gSet i a) (gSet i a') := fun ρ => ole_bnd (h ρ) fun _ => OLe.refl _
theorem gle_ret {a a' : Gd} (h : Gle a a') : Gle (gRet a) (gRet a') := fun ρ => ole_bnd (h ρ) fun _ => OLe.refl _
theorem gle_drop {a a' : Gd} (h : Gle a a') : Gle (gDrop a) (gDrop a') := fun ρ => ole_bnd (h ρ) fun _ => OLe.refl _
theorem gle_asg {a a' : Gd} {t : Dt → List Dt → O (List Dt)} (h : Gle a a') : Gle (gAsg a t) (gAsg a' t) := fun ρ => ole_bnd (h ρ) fun _ => OLe.refl _
theorem gle_cons {a a' : Gd} {b b' : List Dt → O (List Dt)} (h : Gle a a') (k : Gle b b') : Gle (gCons a b) (gCons a' b') := fun ρ => ole_bnd (h ρ) fun _ => ole_bnd (k ρ) fun _ => OLe.refl _
theorem gle_op {f : Dt → Dt → O Dt} {a a' b b' : Gd} (h : Gle a a') (k : Gle b b') : Gle (gOp f a b) (gOp f a' b') := fun ρ => ole_bnd (h ρ) fun _ => ole_bnd (k ρ) fun _ => OLe.refl _
theorem gle_un {f : Dt → O Dt} {a a' : Gd} (h : Gle a a') : Gle (gUn f a) (gUn f a') := fun ρ => ole_bnd (h ρ) fun _ => OLe.refl _
theorem gle_test {a a' : Gd} (h : Gle a a') : Gle (gTest a) (gTest a') := fun ρ => ole_bnd (h ρ) fun _ => OLe.refl _
theorem gle_cb {f : List Dt → O Dt} {a a' : List Dt → O (List Dt)} (h : Gle a a') : Gle (gCB f a) (gCB f a') := fun ρ => ole_bnd (h ρ) fun _ => OLe.refl _
theorem gle_tup {a a' : List Dt → O (List Dt)} (h : Gle a a') : Gle (gTup a) (gTup a') := fun ρ => ole_bnd (h ρ) fun _ => OLe.refl _
theorem gle_callX {n : Nat} {g g' : List Dt → O Dt} {a a' : List Dt → O (List Dt)} (h : ∀ ds, OLe (g ds) (g' ds)) (k : Gle a a') : Gle (gCallN n g a) (gCallX n g' a') := fun ρ => ole_bnd (k ρ) fun ds => by
  by_cases hn : ds.length = n
  · rw [if_pos hn, if_pos hn]
    intro r e
    cases eg : g ds with
    | bad => rw [eg] at e; cases e
    | ex z => rw [eg] at e; cases e
    | ok d => rw [eg] at e; exact (h ds d eg).trans e
  · rw [if_neg hn, if_neg hn]
    exact OLe.refl _
theorem gle_callN {n : Nat} {g g' : List Dt → O Dt} {a a' : List Dt → O (List Dt)} (h : ∀ ds, OLe (g ds) (g' ds)) (k : Gle a a') : Gle (gCallN n g a) (gCallN n g' a') := fun ρ => ole_bnd (k ρ) fun ds => by
  by_cases hn : ds.length = n
  · rw [if_pos hn, if_pos hn]
    intro r e
    cases eg : g ds with
    | bad => rw [eg] at e; cases e
    | ex z => rw [eg] at e; cases e
    | ok d => rw [eg] at e; rw [h ds d eg]; exact e
  · rw [if_neg hn, if_neg hn]
    exact OLe.refl _
theorem ole_forE {h : Dt → List Dt → O (List Dt)} {b b' : Gs} (k : Gle b b') : ∀ (ds : List Dt) (ρ : List Dt), OLe (forE h b ds ρ) (forE h b' ds ρ)
  | [], ρ => OLe.refl _
  | d :: ds, ρ => by
    unfold forE
    cases e : h d ρ with
    | bad => exact OLe.refl _
    | ex z => exact OLe.refl _
    | ok ρ1 =>
      refine ole_bnd (k ρ1) fun fl => ?_
      cases fl with
      | nx ρ' => exact ole_forE k ds ρ'
      | ct ρ' => exact ole_forE k ds ρ'
      | bk ρ' => exact OLe.refl _
      | rt d => exact OLe.refl _
theorem gle_for {gi gi' : List Dt → O (List Dt)} {h : Dt → List Dt → O (List Dt)} {b b' : Gs} (hi : Gle gi gi') (k : Gle b b') : Gle (gFor gi h b) (gFor gi' h b') := fun ρ => ole_bnd (hi ρ) fun ds => ole_forE k ds ρ
theorem ole_N {m : Nat} {g g' : Gs} (h : Gle g g') (ds : List Dt) : OLe (fnN m g ds) (fnNX m g' ds) := fun r e => by
  unfold fnN at e
  unfold fnNX
  cases eg : g (ds ++ List.replicate (m - ds.length) .none) with
  | bad => rw [eg] at e; cases e
  | ex z => rw [eg] at e; cases e
  | ok fl =>
    rw [eg] at e
    rw [h _ fl eg]
    cases fl with
    | nx ρ' => exact e
    | rt d => exact e
    | bk ρ' => cases e
    | ct ρ' => cases e
theorem ole_L {m : Nat} {g g' : Gs} (h : Gle g g') (ds : List Dt) : OLe (fnL m g ds) (fnLX m g' ds) := fun r e => by
  unfold fnL at e
  unfold fnLX
  cases eg : g (ds ++ List.replicate (m - ds.length) .none) with
  | bad => rw [eg] at e; cases e
  | ex z => rw [eg] at e; cases e
  | ok fl =>
    rw [eg] at e
    rw [h _ fl eg]
    cases fl with
    | nx ρ' => cases e
    | rt d => exact e
    | bk ρ' => cases e
    | ct ρ' => cases e
/-! ### refusals, step by step -/
theorem callX_ok {n : Nat} {g : List Dt → O Dt} {gA : List Dt → O (List Dt)} {ρ ds : List Dt} {d : Dt} (h1 : gA ρ = .ok ds) (h2 : ds.length = n) (h3 : g ds = .ok d) : gCallX n g gA ρ = .ok d := by
  unfold gCallX
  rw [h1, bnd_ok, if_pos h2, h3]
theorem callX_ex {n : Nat} {g : List Dt → O Dt} {gA : List Dt → O (List Dt)} {ρ ds : List Dt} {e : Exn} (h1 : gA ρ = .ok ds) (h2 : ds.length = n) (h3 : g ds = .ex e) : gCallX n g gA ρ = .ex e := by
  unfold gCallX
  rw [h1, bnd_ok, if_pos h2, h3]
theorem drop_ex {g : Gd} {ρ : List Dt} {e : Exn} (h : g ρ = .ex e) : gDrop g ρ = .ex e := by unfold gDrop; rw [h]; rfl
theorem set_ex {i : Nat} {g : Gd} {ρ : List Dt} {e : Exn} (h : g ρ = .ex e) : gSet i g ρ = .ex e := by unfold gSet; rw [h]; rfl
theorem drop_ok {g : Gd} {ρ : List Dt} {d : Dt} (h : g ρ = .ok d) : gDrop g ρ = .ok (.nx ρ) := by unfold gDrop; rw [h]; rfl
theorem ret_ex {g : Gd} {ρ : List Dt} {e : Exn} (h : g ρ = .ex e) : gRet g ρ = .ex e := by unfold gRet; rw [h]; rfl
theorem seq_ex {a b : Gs} {ρ : List Dt} {e : Exn} (h : a ρ = .ex e) : gSeqS a b ρ = .ex e := by unfold gSeqS; rw [h]
theorem fnNX_ex {m : Nat} {g : Gs} {ds : List Dt} {e : Exn} (h : g (ds ++ List.replicate (m - ds.length) .none) = .ex e) : fnNX m g ds = .ex e := by unfold fnNX; rw [h]
theorem fnLX_ex {m : Nat} {g : Gs} {ds : List Dt} {e : Exn} (h : g (ds ++ List.replicate (m - ds.length) .none) = .ex e) : fnLX m g ds = .ex e := by unfold fnLX; rw [h]
theorem fnNX_rt {m : Nat} {g : Gs} {ds : List Dt} {d : Dt} (h : g (ds ++ List.replicate (m - ds.length) .none) = .ok (.rt d)) : fnNX m g ds = .ok d := by unfold fnNX; rw [h]
theorem fnNX_nx {m : Nat} {g : Gs} {ds ρ : List Dt} (h : g (ds ++ List.replicate (m - ds.length) .none) = .ok (.nx ρ)) : fnNX m g ds = .ok .none := by unfold fnNX; rw [h]
theorem fnLX_rt {m : Nat} {g : Gs} {ds : List Dt} {d : Dt} (h : g (ds ++ List.replicate (m - ds.length) .none) = .ok (.rt d)) : fnLX m g ds = .ok d := by unfold fnLX; rw [h]
theorem try_ok {gb gh : Gs} {yes no : List Str} {i : Nat} {ρ : List Dt} {a : Fl} (h : gb ρ = .ok a) : gTry gb yes no i gh ρ = .ok a := by unfold gTry; rw [h]
theorem try_ex {gb gh : Gs} {yes no : List Str} {i : Nat} {ρ : List Dt} {c : Str} {m : Option Int} {a : Fl} (h : gb ρ = .ex ⟨c, m⟩) (hc : yes.contains c = true) (k : gh (ρ.set i (exnD c m)) = .ok a) : gTry gb yes no i gh ρ = .ok a := by
  unfold gTry
  rw [h]
  show (if yes.contains c then noX (gh (ρ.set i (exnD c m))) else _) = _
  rw [if_pos hc, k]
  rfl
theorem hIx_ds {ds : List Dt} {i : Nat} (h : i < ds.length) : hIx (.list ds) (.int (i : Nat)) = .ok ds[i] := by
  have q := hIx_l (atI_map id (xs := ds) (i := (i : Int)) (by omega) (by omega))
  rw [List.map_id] at q
  exact q
end Sim
end T_LeP

section T_K13
set_option Elab.async false
set_option linter.all false
set_option maxRecDepth 100000
set_option maxHeartbeats 4000000
namespace K13
open PySem PySem.Spec L2 Sim
open PyProof.Rows hiding St
def topS (i : Nat) : Stmt := PySem.Challenge.pw_sinceply_k13_layers_refused.main.body.getD i (.Pass ⟨0, 0, 0, 0⟩)
abbrev st_is_whole : Stmt := topS 11
theorem sc_is_whole : FnScope ["thing"] ["thing"] (defScope st_is_whole) := ⟨rfl, rfl, rfl, by decide +kernel, rfl, by decide +kernel, by decide +kernel⟩
abbrev st_joined : Stmt := topS 13
theorem sc_joined : FnScope ["marks", "a", "b", "low", "high", "mark"] ["marks", "a", "b"] (defScope st_joined) := ⟨rfl, rfl, rfl, by decide +kernel, rfl, by decide +kernel, by decide +kernel⟩
abbrev st_is_depth : Stmt := topS 16
theorem sc_is_depth : FnScope ["thing"] ["thing"] (defScope st_is_depth) := ⟨rfl, rfl, rfl, by decide +kernel, rfl, by decide +kernel, by decide +kernel⟩
abbrev st_look_at_layers : Stmt := topS 17
theorem sc_look_at_layers : FnScope ["k"] ["k"] (defScope st_look_at_layers) := ⟨rfl, rfl, rfl, by decide +kernel, rfl, by decide +kernel, by decide +kernel⟩
abbrev st_layer_for : Stmt := topS 18
theorem sc_layer_for : FnScope ["marks", "a", "b", "j", "row"] ["marks", "a", "b"] (defScope st_layer_for) := ⟨rfl, rfl, rfl, by decide +kernel, rfl, by decide +kernel, by decide +kernel⟩
abbrev st_layered : Stmt := topS 19
theorem sc_layered : FnScope ["n", "record", "k", "marks", "j", "numbers", "moment", "a", "b"] ["n", "record", "k"] (defScope st_layered) := ⟨rfl, rfl, rfl, by decide +kernel, rfl, by decide +kernel, by decide +kernel⟩
abbrev st_layers_right : Stmt := topS 20
theorem sc_layers_right : FnScope ["n", "record", "k", "numbers", "marks", "j", "tie", "number"] ["n", "record", "k", "numbers"] (defScope st_layers_right) := ⟨rfl, rfl, rfl, by decide +kernel, rfl, by decide +kernel, by decide +kernel⟩
abbrev st_way_in : Stmt := topS 22
theorem sc_way_in : FnScope ["ties", "a", "b", "came", "line", "at", "moment", "one", "other", "to"] ["ties", "a", "b"] (defScope st_way_in) := ⟨rfl, rfl, rfl, by decide +kernel, rfl, by decide +kernel, by decide +kernel⟩
abbrev st_strands : Stmt := topS 23
theorem sc_strands : FnScope ["n", "record", "k", "at", "numbers", "ahead", "found", "j", "ties", "later"] ["n", "record", "k", "at"] (defScope st_strands) := ⟨rfl, rfl, rfl, by decide +kernel, rfl, by decide +kernel, by decide +kernel⟩
abbrev st_l_mixed : Stmt := topS 25
theorem sc_l_mixed : FnScope ["cell", "k", "number"] ["cell", "k"] (defScope st_l_mixed) := ⟨rfl, rfl, rfl, by decide +kernel, rfl, by decide +kernel, by decide +kernel⟩
abbrev st_l_numbers : Stmt := topS 26
theorem sc_l_numbers : FnScope ["cell", "many", "base", "found", "left", "k", "number", "turns"] ["cell", "many", "base"] (defScope st_l_numbers) := ⟨rfl, rfl, rfl, by decide +kernel, rfl, by decide +kernel, by decide +kernel⟩
abbrev st_l_ends : Stmt := topS 27
theorem sc_l_ends : FnScope ["n", "kind", "one", "other", "a"] ["n", "kind", "one", "other"] (defScope st_l_ends) := ⟨rfl, rfl, rfl, by decide +kernel, rfl, by decide +kernel, by decide +kernel⟩
abbrev st_l_record : Stmt := topS 28
theorem sc_l_record : FnScope ["numbers", "most", "n", "many", "wide", "moment", "record", "k", "a", "b"] ["numbers", "most"] (defScope st_l_record) := ⟨rfl, rfl, rfl, by decide +kernel, rfl, by decide +kernel, by decide +kernel⟩
abbrev st_l_thing : Stmt := topS 29
theorem sc_l_thing : FnScope ["far", "number", "some"] ["far", "number"] (defScope st_l_thing) := ⟨rfl, rfl, rfl, by decide +kernel, rfl, by decide +kernel, by decide +kernel⟩
abbrev st_l_refused : Stmt := topS 30
theorem sc_l_refused : FnScope ["n", "record", "thing", "way", "caught", "e"] ["n", "record", "thing", "way"] (defScope st_l_refused) := ⟨rfl, rfl, rfl, by decide +kernel, rfl, by decide +kernel, by decide +kernel⟩
abbrev st_law : Stmt := topS 31
theorem sc_law : FnScope ["script", "cell", "numbers", "n", "record", "thing", "way"] ["script"] (defScope st_law) := ⟨rfl, rfl, rfl, by decide +kernel, rfl, by decide +kernel, by decide +kernel⟩
structure Tx (K : PySem.W.Frag) (mg : Str → Option Value) where
  a_is_whole : Addr
  d_is_whole : FuncData
  F_is_whole : L2.Fun K "is_whole" "is_whole" st_is_whole a_is_whole d_is_whole
  m_is_whole : mg "is_whole" = some (.ref a_is_whole)
  b_is_whole : Binds K d_is_whole ["thing"] []
  a_joined : Addr
  d_joined : FuncData
  F_joined : L2.Fun K "joined" "joined" st_joined a_joined d_joined
  m_joined : mg "joined" = some (.ref a_joined)
  b_joined : Binds K d_joined ["marks", "a", "b"] []
  a_is_depth : Addr
  d_is_depth : FuncData
  F_is_depth : L2.Fun K "is_depth" "is_depth" st_is_depth a_is_depth d_is_depth
  m_is_depth : mg "is_depth" = some (.ref a_is_depth)
  b_is_depth : Binds K d_is_depth ["thing"] []
  a_look_at_layers : Addr
  d_look_at_layers : FuncData
  F_look_at_layers : L2.Fun K "look_at_layers" "look_at_layers" st_look_at_layers a_look_at_layers d_look_at_layers
  m_look_at_layers : mg "look_at_layers" = some (.ref a_look_at_layers)
  b_look_at_layers : Binds K d_look_at_layers ["k"] []
  a_layer_for : Addr
  d_layer_for : FuncData
  F_layer_for : L2.Fun K "layer_for" "layer_for" st_layer_for a_layer_for d_layer_for
  m_layer_for : mg "layer_for" = some (.ref a_layer_for)
  b_layer_for : Binds K d_layer_for ["marks", "a", "b"] []
  a_layered : Addr
  d_layered : FuncData
  F_layered : L2.Fun K "layered" "layered" st_layered a_layered d_layered
  m_layered : mg "layered" = some (.ref a_layered)
  b_layered : Binds K d_layered ["n", "record", "k"] []
  a_layers_right : Addr
  d_layers_right : FuncData
  F_layers_right : L2.Fun K "layers_right" "layers_right" st_layers_right a_layers_right d_layers_right
  m_layers_right : mg "layers_right" = some (.ref a_layers_right)
  b_layers_right : Binds K d_layers_right ["n", "record", "k", "numbers"] []
  a_way_in : Addr
  d_way_in : FuncData
  F_way_in : L2.Fun K "way_in" "way_in" st_way_in a_way_in d_way_in
  m_way_in : mg "way_in" = some (.ref a_way_in)
  b_way_in : Binds K d_way_in ["ties", "a", "b"] []
  a_strands : Addr
  d_strands : FuncData
  F_strands : L2.Fun K "strands" "strands" st_strands a_strands d_strands
  m_strands : mg "strands" = some (.ref a_strands)
  b_strands : Binds K d_strands ["n", "record", "k", "at"] []
  a_l_mixed : Addr
  d_l_mixed : FuncData
  F_l_mixed : L2.Fun K "_law_mixed" "_law_mixed" st_l_mixed a_l_mixed d_l_mixed
  m_l_mixed : mg "_law_mixed" = some (.ref a_l_mixed)
  b_l_mixed : Binds K d_l_mixed ["cell", "k"] []
  a_l_numbers : Addr
  d_l_numbers : FuncData
  F_l_numbers : L2.Fun K "_law_numbers" "_law_numbers" st_l_numbers a_l_numbers d_l_numbers
  m_l_numbers : mg "_law_numbers" = some (.ref a_l_numbers)
  b_l_numbers : Binds K d_l_numbers ["cell", "many", "base"] []
  a_l_ends : Addr
  d_l_ends : FuncData
  F_l_ends : L2.Fun K "_law_ends" "_law_ends" st_l_ends a_l_ends d_l_ends
  m_l_ends : mg "_law_ends" = some (.ref a_l_ends)
  b_l_ends : Binds K d_l_ends ["n", "kind", "one", "other"] []
  a_l_record : Addr
  d_l_record : FuncData
  F_l_record : L2.Fun K "_law_record" "_law_record" st_l_record a_l_record d_l_record
  m_l_record : mg "_law_record" = some (.ref a_l_record)
  b_l_record : Binds K d_l_record ["numbers", "most"] []
  a_l_thing : Addr
  d_l_thing : FuncData
  F_l_thing : L2.Fun K "_law_thing" "_law_thing" st_l_thing a_l_thing d_l_thing
  m_l_thing : mg "_law_thing" = some (.ref a_l_thing)
  b_l_thing : Binds K d_l_thing ["far", "number"] []
  a_l_refused : Addr
  d_l_refused : FuncData
  F_l_refused : L2.Fun K "_law_refused" "_law_refused" st_l_refused a_l_refused d_l_refused
  m_l_refused : mg "_law_refused" = some (.ref a_l_refused)
  b_l_refused : Binds K d_l_refused ["n", "record", "thing", "way"] []
  a_law : Addr
  d_law : FuncData
  F_law : L2.Fun K "law" "law" st_law a_law d_law
  m_law : mg "law" = some (.ref a_law)
  b_law : Binds K d_law ["script"] []
  n_isinstance : mg "isinstance" = none
  n_int : mg "int" = none
  n_bool : mg "bool" = none
  n_min : mg "min" = none
  n_max : mg "max" = none
  n_enumerate : mg "enumerate" = none
  n_range : mg "range" = none
  n_list : mg "list" = none
  n_reversed : mg "reversed" = none
  n_len : mg "len" = none
  n_zip : mg "zip" = none
  n_ValueError : mg "ValueError" = none
  C_NoLayers : Addr
  E_NoLayers : ExT K mg "NoLayers" C_NoLayers
  Q_NoLayers : PySem.W.excIn K C_NoLayers veB "ValueError.__new__" = true
  C_PlyError : Addr
  E_PlyError : ExT K mg "PlyError" C_PlyError
  C_Unlike : Addr
  E_Unlike : ExT K mg "Unlike" C_Unlike
  C_NoTies : Addr
  E_NoTies : ExT K mg "NoTies" C_NoTies
  C_NoText : Addr
  E_NoText : ExT K mg "NoText" C_NoText
  C_NoPlaces : Addr
  E_NoPlaces : ExT K mg "NoPlaces" C_NoPlaces
  C_NoPair : Addr
  E_NoPair : ExT K mg "NoPair" C_NoPair
  C_NoNet : Addr
  E_NoNet : ExT K mg "NoNet" C_NoNet
  C_Clash : Addr
  E_Clash : ExT K mg "Clash" C_Clash
  S_NoLayers_PlyError : PySem.W.subIn K (.ref C_NoLayers) (.ref C_PlyError) = some true
  S_NoLayers_NoLayers : PySem.W.subIn K (.ref C_NoLayers) (.ref C_NoLayers) = some true
  S_NoLayers_ValueError : PySem.W.subIn K (.ref C_NoLayers) (.type "ValueError") = some true
  S_NoLayers_Unlike : PySem.W.subIn K (.ref C_NoLayers) (.ref C_Unlike) = some false
  S_NoLayers_NoTies : PySem.W.subIn K (.ref C_NoLayers) (.ref C_NoTies) = some false
  S_NoLayers_NoText : PySem.W.subIn K (.ref C_NoLayers) (.ref C_NoText) = some false
  S_NoLayers_NoPlaces : PySem.W.subIn K (.ref C_NoLayers) (.ref C_NoPlaces) = some false
  S_NoLayers_NoPair : PySem.W.subIn K (.ref C_NoLayers) (.ref C_NoPair) = some false
  S_NoLayers_NoNet : PySem.W.subIn K (.ref C_NoLayers) (.ref C_NoNet) = some false
  S_NoLayers_Clash : PySem.W.subIn K (.ref C_NoLayers) (.ref C_Clash) = some false
  c_MOST_LAYERS : ∃ tk, mg "MOST_LAYERS" = some (.int (6) tk)
section
variable {P : Program} {w : World} {K : PySem.W.Frag} {mg : Str → Option Value} {base : Heap}
/-! ### is_whole -/
abbrev g_is_whole : Gs := FamL.g_is_whole
abbrev f_is_whole : List Dt → O Dt := FamL.f_is_whole
theorem ok_is_whole (t : Tx K mg) : FnOk P w K mg base CX0 1 t.a_is_whole t.d_is_whole ["thing"] (spG K mg 1 f_is_whole) := by
  have nd : (["thing"] : List Str).Nodup := by decide +kernel
  exact fn_okN t.F_is_whole (Δn := [.im false]) sc_is_whole rfl rfl (by decide) fun cdv A outer s H E hr => ⟨_, BD.frm [.im false] (Δb := kd0 1 1 false) (Δc := kd0 1 1 false)
    (b_one (z_ret (x_and (x_isa .int t.n_isinstance t.n_int (x_var 0)) (x_one (x_not (x_isa .bool t.n_isinstance t.n_bool (x_var 0))))))) rfl⟩
/-! ### joined -/
abbrev g_joined : Gs := FamL.g_joined
abbrev f_joined : List Dt → O Dt := FamL.f_joined
theorem ok_joined (t : Tx K mg) : FnOk P w K mg base CX0 1 t.a_joined t.d_joined ["marks", "a", "b"] (spL K mg 3 f_joined) := by
  have nd : (["marks", "a", "b", "low", "high", "mark"] : List Str).Nodup := by decide +kernel
  exact fn_okL t.F_joined (Δn := [.im false, .im false, .im false, .no, .no, .no]) sc_joined rfl rfl (by decide) fun cdv A outer s H E hr => ⟨_, BD.frm [.im false, .im false, .im false, .no, .no, .no] (Δb := kd0 3 6 false) (Δc := kd0 3 6 false)
    (b_cons ((z_set 3 nd (x_min2 t.n_min (AD.to true false (a_cons (x_ix (x_var 0) (x_var 1)) (a_cons (x_ix (x_var 0) (x_var 2)) (a_nil)))))).to [.im false, .im false, .im false, .im true, .no, .no])
    (b_cons ((z_set 4 nd (x_max2 t.n_max (AD.to true false (a_cons (x_ix (x_var 0) (x_var 1)) (a_cons (x_ix (x_var 0) (x_var 2)) (a_nil)))))).to [.im false, .im false, .im false, .im true, .im true, .no])
    (b_one (z_retL (PD.purN (x_lc (n := 6) [("mark", 5)] nd (i_seq (x_var 0)) (blk_fx (N := ["marks", "a", "b", "low", "high", "mark"]) (sc := defScope st_joined) (by decide +kernel)) (fun _ _ _ _ _ => g_name 5 nd) (fun _ _ _ _ _ => t_nil) (fun _ _ _ _ _ => x_ifE (c_cmp (or_eq hr) (x_var 5) (x_var 4)) ((x_var 3).wk (av' := true) (fr' := false)) (x_var 5)))))))) rfl⟩
/-! ### is_depth -/
abbrev g_is_depth : Gs := FamL.g_is_depth
abbrev f_is_depth : List Dt → O Dt := FamL.f_is_depth
theorem ok_is_depth (t : Tx K mg) : FnOk P w K mg base CX0 2 t.a_is_depth t.d_is_depth ["thing"] (spG K mg 1 f_is_depth) := by
  obtain ⟨_, h_MOST_LAYERS⟩ := t.c_MOST_LAYERS
  have G_is_whole := ok_is_whole (P := P) (w := w) (base := base) t
  have nd : (["thing"] : List Str).Nodup := by decide +kernel
  exact fn_okN t.F_is_depth (Δn := [.im false]) sc_is_depth rfl rfl (by decide) fun cdv A outer s H E hr => ⟨_, BD.frm [.im false] (Δb := kd0 1 1 false) (Δc := kd0 1 1 false)
    (b_one (z_ret (x_and (x_callN G_is_whole (hr.mono (by decide)) t.m_is_whole t.F_is_whole.kp t.b_is_whole pass0 (AD.to true false (a_cons (x_var 0) (a_nil)))) (x_one (x_chain or_le or_le (x_int) (x_var 0) (x_glob (v := .int (6)) h_MOST_LAYERS ⟨_, rfl⟩ (.int _))))))) rfl⟩
/-! ### look_at_layers -/
def g_look_at_layers : Gs := gIfS (gNot (gTest (gCallN 1 f_is_depth (gCons (gVar 0) (gNil))))) (gRaise "NoLayers") (gNext)
def f_look_at_layers : List Dt → O Dt := fnNX 1 g_look_at_layers
theorem ok_look_at_layers (t : Tx K mg) : FnOk P w K mg base (L2.CX P w) 3 t.a_look_at_layers t.d_look_at_layers ["k"] (spG K mg 1 f_look_at_layers) := by
  have G_is_depth := ok_is_depth (P := P) (w := w) (base := base) t
  have nd : (["k"] : List Str).Nodup := by decide +kernel
  exact fn_okNX t.F_look_at_layers (Δn := [.im false]) sc_look_at_layers rfl rfl (by decide) fun cdv A outer s H E hr tk hp => ⟨_, BD.frm [.im false] (Δb := kd0 1 1 false) (Δc := kd0 1 1 false)
    (BD.to [.im false] (b_one (z_if (Δn := [.im false]) (c_not (c_val (x_callN G_is_depth (hr.mono (by decide)) t.m_is_depth t.F_is_depth.kp t.b_is_depth pass0 (AD.to true false (a_cons (x_var 0) (a_nil))))))
    (b_one (z_raise0 tk t.E_NoLayers t.Q_NoLayers))
    ((b_nil).to [.im false])))) rfl⟩
/-! ### layer_for -/
abbrev g_layer_for : Gs := FamL.g_layer_for
abbrev f_layer_for : List Dt → O Dt := FamL.f_layer_for
theorem ok_layer_for (t : Tx K mg) : FnOk P w K mg base CX0 1 t.a_layer_for t.d_layer_for ["marks", "a", "b"] (spG K mg 3 f_layer_for) := by
  have nd : (["marks", "a", "b", "j", "row"] : List Str).Nodup := by decide +kernel
  exact fn_okN t.F_layer_for (Δn := [.im false, .im false, .im false, .no, .no]) sc_layer_for rfl rfl (by decide) fun cdv A outer s H E hr => ⟨_, BD.frm [.im false, .im false, .im false, .no, .no] (Δb := kd0 3 5 false) (Δc := kd0 3 5 false)
    (b_cons (z_for (n := 5) .never (i_enum t.n_enumerate (AD.to true false (a_cons (x_var 0) (a_nil)))) (g_tup (m := 2) rfl (g_cons (g_name 3 nd) (g_cons (g_name 4 nd) (g_nil))) (tgCons_len (tgCons_len tgNil_len)))
    ((b_one (z_if (Δn := [.im false, .im false, .im false, .im false, .im false]) (c_cmp (or_ne hr) (x_ix (x_var 4) (x_var 1)) (x_ix (x_var 4) (x_var 2)))
    (b_one (z_ret (x_add (x_var 3) (x_int))))
    ((b_nil).to [.im false, .im false, .im false, .im false, .im false]))).to [.im false, .im false, .im false, .no, .no]))
    (b_one (z_ret (x_int)))) rfl⟩
/-! ### layered -/
def g_layered_L1 : Gs := gSeqS (gSet 4 (gCallN 3 f_layer_for (gCons (gVar 3) (gCons (gVar 7) (gCons (gVar 8) (gNil)))))) (gSeqS (gIfS (gTest (gOp hGt (gVar 4) (gC (.int (0))))) (gSetI 3 (gCallN 3 f_joined (gCons (gOp hIx (gVar 3) (gOp hSub (gVar 4) (gC (.int (1))))) (gCons (gVar 7) (gCons (gVar 8) (gNil))))) (gOp hSub (gVar 4) (gC (.int (1))))) (gNext)) (gApp 5 (gVar 4)))
def g_layered : Gs := gSeqS (gDrop (gCallX 1 f_look_at_layers (gCons (gVar 2) (gNil)))) (gSeqS (gSet 3 (gLc (gRng1 (gCons (gVar 2) (gNil))) (tgN 4) (gYes) (gLsI (gRng1 (gCons (gVar 0) gNil))))) (gSeqS (gSet 5 (gLst (gNil))) (gSeqS (gFor (gRev (gCons (gVar 1) (gNil))) (tgT (tgCons (tgN 6) (tgCons (tgN 7) (tgCons (tgN 8) (tgNil))))) g_layered_L1) (gRet (gLsI (gRev (gCons (gVar 5) gNil)))))))
def f_layered : List Dt → O Dt := fnLX 9 g_layered
theorem ok_layered (t : Tx K mg) : FnOk P w K mg base (L2.CX P w) 4 t.a_layered t.d_layered ["n", "record", "k"] (spL K mg 3 f_layered) := by
  have G_look_at_layers := ok_look_at_layers (P := P) (w := w) (base := base) t
  have G_layer_for := ok_layer_for (P := P) (w := w) (base := base) t
  have G_joined := ok_joined (P := P) (w := w) (base := base) t
  have nd : (["n", "record", "k", "marks", "j", "numbers", "moment", "a", "b"] : List Str).Nodup := by decide +kernel
  exact fn_okLX t.F_layered (Δn := [.im false, .im false, .im false, .no, .no, .no, .no, .no, .no]) sc_layered rfl rfl (by decide) fun cdv A outer s H E hr tk hp => ⟨_, BD.frm [.im false, .im false, .im false, .no, .no, .no, .no, .no, .no] (Δb := kd0 3 9 false) (Δc := kd0 3 9 false)
    (b_cons ((z_expr (x_callXN tk G_look_at_layers (hr.mono (by decide)) t.m_look_at_layers t.F_look_at_layers.kp t.b_look_at_layers (AD.to true false (a_cons (x_var 2) (a_nil))))).to [.im false, .im false, .im false, .no, .no, .no, .no, .no, .no])
    (b_cons ((z_setLc 3 (n := 9) [("j", 4)] nd (i_rng1 t.n_range (AD.to true false (a_cons (x_var 2) (a_nil)))) (blk_fx (N := ["n", "record", "k", "marks", "j", "numbers", "moment", "a", "b"]) (sc := defScope st_layered) (by decide +kernel)) (fun _ _ _ _ _ => g_name 4 nd) (fun _ _ _ _ _ => t_nil) (fun _ _ _ _ _ => (x_lrng1 t.n_list t.n_range (x_var 0)).nv) (sw_true rfl rfl rfl (by decide +kernel))).to [.im false, .im false, .im false, .own .l true, .no, .no, .no, .no, .no])
    (b_cons ((z_setO 5 nd (x_lst (a_nil))).to [.im false, .im false, .im false, .own .l true, .no, .own .l true, .no, .no, .no])
    (b_cons (z_for (n := 9) hp (i_rev t.n_reversed (AD.to true false (a_cons (x_var 1) (a_nil)))) (g_tup (m := 3) rfl (g_cons (g_name 6 nd) (g_cons (g_name 7 nd) (g_cons (g_name 8 nd) (g_nil)))) (tgCons_len (tgCons_len (tgCons_len tgNil_len))))
    ((b_cons ((z_set 4 nd (x_callN G_layer_for (hr.mono (by decide)) t.m_layer_for t.F_layer_for.kp t.b_layer_for pass0 (AD.to false false (a_cons ((x_own 3).ov) (a_cons (x_var 7) (a_cons (x_var 8) (a_nil))))))).to [.im false, .im false, .im false, .own .l true, .im true, .own .l true, .im false, .im false, .im false])
    (b_cons (z_if (Δn := [.im false, .im false, .im false, .own .l true, .im true, .own .l true, .im false, .im false, .im false]) (c_cmp or_gt (x_var 4) (x_int))
    ((b_one ((z_setI 3 ((x_callL G_joined (hr.mono (by decide)) t.m_joined t.F_joined.kp t.b_joined pass0 (AD.to true false (a_cons (x_ixO (x_own 3) (x_sub (x_var 4) (x_int))) (a_cons (x_var 7) (a_cons (x_var 8) (a_nil)))))).nv) (x_sub (x_var 4) (x_int))).to [.im false, .im false, .im false, .own .l true, .im true, .own .l true, .im false, .im false, .im false])).to [.im false, .im false, .im false, .own .l true, .im true, .own .l true, .im false, .im false, .im false])
    ((b_nil).to [.im false, .im false, .im false, .own .l true, .im true, .own .l true, .im false, .im false, .im false]))
    (b_one ((z_app 5 (x_var 4)).to [.im false, .im false, .im false, .own .l true, .im true, .own .l true, .im false, .im false, .im false])))).to [.im false, .im false, .im false, .own .l true, .no, .own .l true, .no, .no, .no]))
    (b_one (z_retL (x_lrevO t.n_list t.n_reversed (x_own 5)))))))) rfl⟩
/-! ### layers_right -/
def g_layers_right_L1 : Gs := gSeqS (gIfS (gTest (gOp hNe (gVar 7) (gCallN 3 f_layer_for (gCons (gVar 4) (gCons (gOp hIx (gVar 6) (gC (.int (1)))) (gCons (gOp hIx (gVar 6) (gC (.int (2)))) (gNil))))))) (gRet (gC (.bool false))) (gNext)) (gIfS (gTest (gOp hGt (gVar 7) (gC (.int (0))))) (gSetI 4 (gCallN 3 f_joined (gCons (gOp hIx (gVar 4) (gOp hSub (gVar 7) (gC (.int (1))))) (gCons (gOp hIx (gVar 6) (gC (.int (1)))) (gCons (gOp hIx (gVar 6) (gC (.int (2)))) (gNil))))) (gOp hSub (gVar 7) (gC (.int (1))))) (gNext))
def g_layers_right : Gs := gSeqS (gDrop (gCallX 1 f_look_at_layers (gCons (gVar 2) (gNil)))) (gSeqS (gIfS (gTest (gOp hNe (gCB hLen (gCons (gVar 3) (gNil))) (gCB hLen (gCons (gVar 1) (gNil))))) (gRet (gC (.bool false))) (gNext)) (gSeqS (gSet 4 (gLc (gRng1 (gCons (gVar 2) (gNil))) (tgN 5) (gYes) (gLsI (gRng1 (gCons (gVar 0) gNil))))) (gSeqS (gFor (gZipR (gVar 1) (gVar 3)) (tgT (tgCons (tgN 6) (tgCons (tgN 7) (tgNil)))) g_layers_right_L1) (gRet (gC (.bool true))))))
def f_layers_right : List Dt → O Dt := fnNX 8 g_layers_right
theorem ok_layers_right (t : Tx K mg) : FnOk P w K mg base (L2.CX P w) 4 t.a_layers_right t.d_layers_right ["n", "record", "k", "numbers"] (spG K mg 4 f_layers_right) := by
  have G_look_at_layers := ok_look_at_layers (P := P) (w := w) (base := base) t
  have G_layer_for := ok_layer_for (P := P) (w := w) (base := base) t
  have G_joined := ok_joined (P := P) (w := w) (base := base) t
  have nd : (["n", "record", "k", "numbers", "marks", "j", "tie", "number"] : List Str).Nodup := by decide +kernel
  exact fn_okNX t.F_layers_right (Δn := [.im false, .im false, .im false, .im false, .no, .no, .no, .no]) sc_layers_right rfl rfl (by decide) fun cdv A outer s H E hr tk hp => ⟨_, BD.frm [.im false, .im false, .im false, .im false, .no, .no, .no, .no] (Δb := kd0 4 8 false) (Δc := kd0 4 8 false)
    (b_cons ((z_expr (x_callXN tk G_look_at_layers (hr.mono (by decide)) t.m_look_at_layers t.F_look_at_layers.kp t.b_look_at_layers (AD.to true false (a_cons (x_var 2) (a_nil))))).to [.im false, .im false, .im false, .im false, .no, .no, .no, .no])
    (b_cons (z_if (Δn := [.im false, .im false, .im false, .im false, .no, .no, .no, .no]) (c_cmp (or_ne hr) (x_len t.n_len (AD.to true false (a_cons (x_var 3) (a_nil)))) (x_len t.n_len (AD.to true false (a_cons (x_var 1) (a_nil)))))
    (b_one (z_ret (x_bl)))
    ((b_nil).to [.im false, .im false, .im false, .im false, .no, .no, .no, .no]))
    (b_cons ((z_setLc 4 (n := 8) [("j", 5)] nd (i_rng1 t.n_range (AD.to true false (a_cons (x_var 2) (a_nil)))) (blk_fx (N := ["n", "record", "k", "numbers", "marks", "j", "tie", "number"]) (sc := defScope st_layers_right) (by decide +kernel)) (fun _ _ _ _ _ => g_name 5 nd) (fun _ _ _ _ _ => t_nil) (fun _ _ _ _ _ => (x_lrng1 t.n_list t.n_range (x_var 0)).nv) (sw_true rfl rfl rfl (by decide +kernel))).to [.im false, .im false, .im false, .im false, .own .l true, .no, .no, .no])
    (b_cons (z_for (n := 8) hp (i_zipR t.n_zip t.n_reversed (x_var 1) (x_var 3)) (g_tup (m := 2) rfl (g_cons (g_name 6 nd) (g_cons (g_name 7 nd) (g_nil))) (tgCons_len (tgCons_len tgNil_len)))
    ((b_cons (z_if (Δn := [.im false, .im false, .im false, .im false, .own .l true, .no, .im false, .im false]) (c_cmp (or_ne hr) (x_var 7) (x_callN G_layer_for (hr.mono (by decide)) t.m_layer_for t.F_layer_for.kp t.b_layer_for pass0 (AD.to false false (a_cons ((x_own 4).ov) (a_cons (x_ix (x_var 6) (x_int)) (a_cons (x_ix (x_var 6) (x_int)) (a_nil)))))))
    (b_one (z_ret (x_bl)))
    ((b_nil).to [.im false, .im false, .im false, .im false, .own .l true, .no, .im false, .im false]))
    (b_one (z_if (Δn := [.im false, .im false, .im false, .im false, .own .l true, .no, .im false, .im false]) (c_cmp or_gt (x_var 7) (x_int))
    ((b_one ((z_setI 4 ((x_callL G_joined (hr.mono (by decide)) t.m_joined t.F_joined.kp t.b_joined pass0 (AD.to true false (a_cons (x_ixO (x_own 4) (x_sub (x_var 7) (x_int))) (a_cons (x_ix (x_var 6) (x_int)) (a_cons (x_ix (x_var 6) (x_int)) (a_nil)))))).nv) (x_sub (x_var 7) (x_int))).to [.im false, .im false, .im false, .im false, .own .l true, .no, .im false, .im false])).to [.im false, .im false, .im false, .im false, .own .l true, .no, .im false, .im false])
    ((b_nil).to [.im false, .im false, .im false, .im false, .own .l true, .no, .im false, .im false])))).to [.im false, .im false, .im false, .im false, .own .l true, .no, .no, .no]))
    (b_one (z_ret (x_bl))))))) rfl⟩
/-! ### way_in -/
def g_way_in_L1 : Gs := gIfS (gTest (gOp hIn (gOp hIx (gVar 4) (gVar 5)) (gTup (gCons (gVar 7) (gCons (gVar 8) (gNil)))))) (gSeqS (gSet 9 (gOp hSub (gOp hAdd (gVar 7) (gVar 8)) (gOp hIx (gVar 4) (gVar 5)))) (gIfS (gTest (gDIn true 3 (gVar 9))) (gSeqS (gDPut 3 (gOp hCat (gDGet 3 (gOp hIx (gVar 4) (gVar 5))) (gLst (gCons (gVar 6) (gNil)))) (gVar 9)) (gApp 4 (gVar 9))) (gNext))) (gNext)
def g_way_in_L2 : Gs := gSeqS (gFor (gSeq (gVar 0)) (tgT (tgCons (tgN 6) (tgCons (tgN 7) (tgCons (tgN 8) (tgNil))))) g_way_in_L1) (gAug (fun i j => i + j) 5 (gC (.int (1))))
def g_way_in_T2 : List Dt → O Bool := gTest (gDIn true 3 (gVar 2))
def g_way_in : Gs := gSeqS (gSet 3 (gDNew1 (gVar 1) (gLst (gNil)))) (gSeqS (gSet 4 (gLst (gCons (gVar 1) (gNil)))) (gSeqS (gSet 5 (gC (.int (0)))) (gSeqS (gWhile g_way_in_T2 g_way_in_L2 20) (gRet (gDGet 3 (gVar 2))))))
def f_way_in : List Dt → O Dt := fnN 10 g_way_in
theorem ok_way_in (t : Tx K mg) : FnOk P w K mg base CX0 1 t.a_way_in t.d_way_in ["ties", "a", "b"] (spA K mg 3 f_way_in) := by
  have nd : (["ties", "a", "b", "came", "line", "at", "moment", "one", "other", "to"] : List Str).Nodup := by decide +kernel
  exact fn_okA t.F_way_in (Δn := [.im true, .im true, .im true, .no, .no, .no, .no, .no, .no, .no]) sc_way_in rfl rfl (by decide) fun cdv A outer s H E hr => ⟨_, BD.frm [.im true, .im true, .im true, .no, .no, .no, .no, .no, .no, .no] (Δb := kd0 3 10 true) (Δc := kd0 3 10 true)
    (b_cons ((z_setO 3 nd (x_dnew1 (x_var 1) ((x_lst (a_nil)).nv))).to [.im true, .im true, .im true, .own .dk true, .no, .no, .no, .no, .no, .no])
    (b_cons ((z_setO 4 nd (x_lst (AD.to true true (a_cons (x_var 1) (a_nil))))).to [.im true, .im true, .im true, .own .dk true, .own .l true, .no, .no, .no, .no, .no])
    (b_cons ((z_set 5 nd (x_int)).to [.im true, .im true, .im true, .own .dk true, .own .l true, .im true, .no, .no, .no, .no])
    (b_cons (z_while 20 .never (c_dnin 3 hr (x_var 2))
    ((b_cons (z_for (n := 10) .never (i_seq (x_var 0)) (g_tup (m := 3) rfl (g_cons (g_name 6 nd) (g_cons (g_name 7 nd) (g_cons (g_name 8 nd) (g_nil)))) (tgCons_len (tgCons_len (tgCons_len tgNil_len))))
    ((b_one (z_if (Δn := [.im true, .im true, .im true, .own .dk true, .own .l true, .im true, .im true, .im true, .im true, .no]) (c_cmp (or_in hr) (x_ixO (x_own 4) (x_var 5)) (x_tup (AD.to true true (a_cons (x_var 7) (a_cons (x_var 8) (a_nil))))))
    ((b_cons ((z_set 9 nd (x_sub (x_add (x_var 7) (x_var 8)) (x_ixO (x_own 4) (x_var 5)))).to [.im true, .im true, .im true, .own .dk true, .own .l true, .im true, .im true, .im true, .im true, .im true])
    (b_one (z_if (Δn := [.im true, .im true, .im true, .own .dk true, .own .l true, .im true, .im true, .im true, .im true, .im true]) (c_dnin 3 hr (x_var 9))
    ((b_cons ((z_dput 3 hr ((PD.wkN true (x_cat (x_dget 3 hr (x_ixO (x_own 4) (x_var 5))) ((x_lst (AD.to true true (a_cons (x_var 6) (a_nil)))).nv))).nv) (x_var 9)).to [.im true, .im true, .im true, .own .dk true, .own .l true, .im true, .im true, .im true, .im true, .im true])
    (b_one ((z_app 4 (x_var 9)).to [.im true, .im true, .im true, .own .dk true, .own .l true, .im true, .im true, .im true, .im true, .im true]))).to [.im true, .im true, .im true, .own .dk true, .own .l true, .im true, .im true, .im true, .im true, .im true])
    ((b_nil).to [.im true, .im true, .im true, .own .dk true, .own .l true, .im true, .im true, .im true, .im true, .im true])))).to [.im true, .im true, .im true, .own .dk true, .own .l true, .im true, .im true, .im true, .im true, .no])
    ((b_nil).to [.im true, .im true, .im true, .own .dk true, .own .l true, .im true, .im true, .im true, .im true, .no]))).to [.im true, .im true, .im true, .own .dk true, .own .l true, .im true, .no, .no, .no, .no]))
    (b_one ((z_augA 5 nd (x_int)).to [.im true, .im true, .im true, .own .dk true, .own .l true, .im true, .no, .no, .no, .no]))).to [.im true, .im true, .im true, .own .dk true, .own .l true, .im true, .no, .no, .no, .no]))
    (b_one (z_ret (x_dget 3 hr (x_var 2)))))))) rfl⟩
/-! ### strands -/
def g_strands_L1 : Gs := gSeqS (gSet 8 (gLc (gRng2 (gCons (gOp hAdd (gVar 3) (gC (.int (1)))) (gCons (gCB hLen (gCons (gVar 1) (gNil))) (gNil)))) (tgN 9) (gTest (gOp hEq (gOp hIx (gVar 4) (gVar 9)) (gVar 7))) (gOp hIx (gVar 1) (gVar 9)))) (gApp 6 (gCallN 3 f_way_in (gCons (gVar 8) (gCons (gOp hIx (gOp hIx (gVar 1) (gVar 3)) (gC (.int (1)))) (gCons (gOp hIx (gOp hIx (gVar 1) (gVar 3)) (gC (.int (2)))) (gNil))))))
def g_strands : Gs := gSeqS (gSet 4 (gCallX 3 f_layered (gCons (gVar 0) (gCons (gVar 1) (gCons (gVar 2) (gNil)))))) (gSeqS (gSet 5 (gOp hSub (gOp hIx (gVar 4) (gVar 3)) (gC (.int (1))))) (gSeqS (gIfS (gTest (gOp hEq (gOp hIx (gVar 4) (gVar 3)) (gC (.int (0))))) (gSet 5 (gVar 2)) (gNext)) (gSeqS (gSet 6 (gLst (gNil))) (gSeqS (gFor (gRng2 (gCons (gC (.int (1))) (gCons (gOp hAdd (gVar 5) (gC (.int (1)))) (gNil)))) (tgN 7) g_strands_L1) (gRet (gVar 6))))))
def f_strands : List Dt → O Dt := fnNX 10 g_strands
theorem ok_strands (t : Tx K mg) : FnOk P w K mg base (L2.CX P w) 5 t.a_strands t.d_strands ["n", "record", "k", "at"] (spA K mg 4 f_strands) := by
  have G_layered := ok_layered (P := P) (w := w) (base := base) t
  have G_way_in := ok_way_in (P := P) (w := w) (base := base) t
  have nd : (["n", "record", "k", "at", "numbers", "ahead", "found", "j", "ties", "later"] : List Str).Nodup := by decide +kernel
  exact fn_okAX t.F_strands (Δn := [.im true, .im true, .im true, .im true, .no, .no, .no, .no, .no, .no]) sc_strands rfl rfl (by decide) fun cdv A outer s H E hr tk hp => ⟨_, BD.frm [.im true, .im true, .im true, .im true, .no, .no, .no, .no, .no, .no] (Δb := kd0 4 10 true) (Δc := kd0 4 10 true)
    (b_cons ((z_set 4 nd ((x_callXL tk G_layered (hr.mono (by decide)) t.m_layered t.F_layered.kp t.b_layered (AD.to true true (a_cons (x_var 0) (a_cons (x_var 1) (a_cons (x_var 2) (a_nil)))))).nv)).to [.im true, .im true, .im true, .im true, .im true, .no, .no, .no, .no, .no])
    (b_cons ((z_set 5 nd (x_sub (x_ix (x_var 4) (x_var 3)) (x_int))).to [.im true, .im true, .im true, .im true, .im true, .im true, .no, .no, .no, .no])
    (b_cons (z_if (Δn := [.im true, .im true, .im true, .im true, .im true, .im true, .no, .no, .no, .no]) (c_cmp (or_eq hr) (x_ix (x_var 4) (x_var 3)) (x_int))
    ((b_one ((z_set 5 nd (x_var 2)).to [.im true, .im true, .im true, .im true, .im true, .im true, .no, .no, .no, .no])).to [.im true, .im true, .im true, .im true, .im true, .im true, .no, .no, .no, .no])
    ((b_nil).to [.im true, .im true, .im true, .im true, .im true, .im true, .no, .no, .no, .no]))
    (b_cons ((z_setO 6 nd (x_lst (a_nil))).to [.im true, .im true, .im true, .im true, .im true, .im true, .own .l true, .no, .no, .no])
    (b_cons (z_for (n := 10) hp (i_rng2 t.n_range (AD.to true true (a_cons (x_int) (a_cons (x_add (x_var 5) (x_int)) (a_nil))))) (g_name 7 nd)
    ((b_cons ((z_setLc 8 (n := 10) [("later", 9)] nd (i_rng2 t.n_range (AD.to true true (a_cons (x_add (x_var 3) (x_int)) (a_cons (x_len t.n_len (AD.to true true (a_cons (x_var 1) (a_nil)))) (a_nil))))) (blk_fx (N := ["n", "record", "k", "at", "numbers", "ahead", "found", "j", "ties", "later"]) (sc := defScope st_strands) (by decide +kernel)) (fun _ _ _ _ _ => g_name 9 nd) (fun _ _ _ _ _ => t_one (c_cmp (or_eq hr) (x_ix (x_var 4) (x_var 9)) (x_var 7))) (fun _ _ _ _ _ => x_ix (x_var 1) (x_var 9)) (sw_true rfl rfl rfl (by decide +kernel))).to [.im true, .im true, .im true, .im true, .im true, .im true, .own .l true, .im true, .im true, .no])
    (b_one ((z_app 6 (x_callA G_way_in (hr.mono (by decide)) t.m_way_in t.F_way_in.kp t.b_way_in pass0 (AD.to true true (a_cons (x_var 8) (a_cons (x_ix (x_ix (x_var 1) (x_var 3)) (x_int)) (a_cons (x_ix (x_ix (x_var 1) (x_var 3)) (x_int)) (a_nil))))))).to [.im true, .im true, .im true, .im true, .im true, .im true, .own .l true, .im true, .im true, .no]))).to [.im true, .im true, .im true, .im true, .im true, .im true, .own .l true, .no, .no, .no]))
    (b_one (z_ret ((x_own 6).ov)))))))) rfl⟩
/-! ### _law_mixed -/
abbrev g_l_mixed : Gs := FamA.g_l_mixed
abbrev f_l_mixed : List Dt → O Dt := FamA.f_l_mixed
theorem ok_l_mixed (t : Tx K mg) : FnOk P w K mg base CX0 1 t.a_l_mixed t.d_l_mixed ["cell", "k"] (spG K mg 2 f_l_mixed) := by
  have nd : (["cell", "k", "number"] : List Str).Nodup := by decide +kernel
  exact fn_okN t.F_l_mixed (Δn := [.im false, .im false, .no]) sc_l_mixed rfl rfl (by decide) fun cdv A outer s H E hr => ⟨_, BD.frm [.im false, .im false, .no] (Δb := kd0 2 3 false) (Δc := kd0 2 3 false)
    (b_cons ((z_set 2 nd (x_mod (x_mul (x_add (x_add (x_mod (x_var 0) (x_int)) (x_mul (x_int) (x_var 1))) (x_int)) (x_int)) (x_int))).to [.im false, .im false, .im true])
    (b_cons ((z_set 2 nd (x_mod (x_add (x_mod (x_mul (x_var 2) (x_var 2)) (x_int)) (x_mul (x_int) (x_var 1))) (x_int))).to [.im false, .im false, .im true])
    (b_one (z_ret (x_mod (x_mul (x_var 2) (x_int)) (x_int)))))) rfl⟩
/-! ### _law_numbers -/
abbrev g_l_numbers : Gs := FamA.g_l_numbers
abbrev f_l_numbers : List Dt → O Dt := FamA.f_l_numbers
theorem ok_l_numbers (t : Tx K mg) : FnOk P w K mg base CX0 2 t.a_l_numbers t.d_l_numbers ["cell", "many", "base"] (spL K mg 3 f_l_numbers) := by
  have G_l_mixed := ok_l_mixed (P := P) (w := w) (base := base) t
  have nd : (["cell", "many", "base", "found", "left", "k", "number", "turns"] : List Str).Nodup := by decide +kernel
  exact fn_okL t.F_l_numbers (Δn := [.im false, .im false, .im false, .no, .no, .no, .no, .no]) sc_l_numbers rfl rfl (by decide) fun cdv A outer s H E hr => ⟨_, BD.frm [.im false, .im false, .im false, .no, .no, .no, .no, .no] (Δb := kd0 3 8 false) (Δc := kd0 3 8 false)
    (b_cons ((z_setO 3 nd (x_lst (a_nil))).to [.im false, .im false, .im false, .own .l true, .no, .no, .no, .no])
    (b_cons ((z_set 4 nd (x_sub (x_var 0) (x_pow (x_int) (x_int)))).to [.im false, .im false, .im false, .own .l true, .im true, .no, .no, .no])
    (b_cons (z_for (n := 8) .never (i_rng1 t.n_range (AD.to true false (a_cons (x_var 1) (a_nil)))) (g_name 5 nd)
    ((b_cons ((z_set 6 nd (x_var 4)).to [.im false, .im false, .im false, .own .l true, .im true, .im true, .im true, .no])
    (b_cons (z_if (Δn := [.im false, .im false, .im false, .own .l true, .im true, .im true, .im true, .no]) (c_cmp or_gt (x_var 4) (x_int))
    ((b_one ((z_set 4 nd (x_div (x_var 4) (x_var 2))).to [.im false, .im false, .im false, .own .l true, .im true, .im true, .im true, .no])).to [.im false, .im false, .im false, .own .l true, .im true, .im true, .im true, .no])
    ((b_cons ((z_set 6 nd (x_int)).to [.im false, .im false, .im false, .own .l true, .im true, .im true, .im true, .no])
    (b_cons ((z_set 7 nd (x_int)).to [.im false, .im false, .im false, .own .l true, .im true, .im true, .im true, .im true])
    (b_one (z_while 100 .never (c_cmp or_lt (x_mul (x_var 7) (x_int)) (x_add (x_bits (x_var 2)) (x_int)))
    ((b_cons ((z_set 6 nd (x_add (x_mul (x_var 6) (x_int)) (x_callN G_l_mixed (hr.mono (by decide)) t.m_l_mixed t.F_l_mixed.kp t.b_l_mixed pass0 (AD.to true false (a_cons (x_var 0) (a_cons (x_add (x_mul (x_int) (x_var 5)) (x_var 7)) (a_nil))))))).to [.im false, .im false, .im false, .own .l true, .im true, .im true, .im true, .im true])
    (b_one ((z_set 7 nd (x_add (x_var 7) (x_int))).to [.im false, .im false, .im false, .own .l true, .im true, .im true, .im true, .im true]))).to [.im false, .im false, .im false, .own .l true, .im true, .im true, .im true, .im true]))))).to [.im false, .im false, .im false, .own .l true, .im true, .im true, .im true, .no]))
    (b_one ((z_app 3 (x_mod (x_var 6) (x_var 2))).to [.im false, .im false, .im false, .own .l true, .im true, .im true, .im true, .no])))).to [.im false, .im false, .im false, .own .l true, .im true, .no, .no, .no]))
    (b_one (z_retO 3))))) rfl⟩
/-! ### _law_ends -/
abbrev g_l_ends : Gs := FamA.g_l_ends
abbrev f_l_ends : List Dt → O Dt := FamA.f_l_ends
theorem ok_l_ends (t : Tx K mg) : FnOk P w K mg base CX0 1 t.a_l_ends t.d_l_ends ["n", "kind", "one", "other"] (spG K mg 4 f_l_ends) := by
  have nd : (["n", "kind", "one", "other", "a"] : List Str).Nodup := by decide +kernel
  exact fn_okN t.F_l_ends (Δn := [.im false, .im false, .im false, .im false, .no]) sc_l_ends rfl rfl (by decide) fun cdv A outer s H E hr => ⟨_, BD.frm [.im false, .im false, .im false, .im false, .no] (Δb := kd0 4 5 false) (Δc := kd0 4 5 false)
    (b_cons ((z_set 4 nd (x_mod (x_var 2) (x_var 0))).to [.im false, .im false, .im false, .im false, .im true])
    (b_cons (z_if (Δn := [.im false, .im false, .im false, .im false, .im true]) (c_cmp (or_eq hr) (x_var 1) (x_int))
    (b_one (z_ret (x_tup (AD.to true true (a_cons (x_var 4) (a_cons (x_mod (x_var 3) (x_var 0)) (a_nil)))))))
    ((b_nil).to [.im false, .im false, .im false, .im false, .im true]))
    (b_cons (z_if (Δn := [.im false, .im false, .im false, .im false, .im true]) (c_cmp (or_eq hr) (x_var 1) (x_int))
    (b_one (z_ret (x_tup (AD.to true true (a_cons (x_mod (x_var 2) (x_min2 t.n_min (AD.to true false (a_cons (x_var 0) (a_cons (x_int) (a_nil)))))) (a_cons (x_mod (x_var 3) (x_min2 t.n_min (AD.to true false (a_cons (x_var 0) (a_cons (x_int) (a_nil)))))) (a_nil)))))))
    ((b_nil).to [.im false, .im false, .im false, .im false, .im true]))
    (b_cons (z_if (Δn := [.im false, .im false, .im false, .im false, .im true]) (c_cmp (or_eq hr) (x_var 1) (x_int))
    (b_one (z_ret (x_tup (AD.to true true (a_cons (x_var 4) (a_cons (x_mod (x_add (x_add (x_var 4) (x_int)) (x_div (x_mod (x_var 3) (x_int)) (x_int))) (x_var 0)) (a_nil)))))))
    ((b_nil).to [.im false, .im false, .im false, .im false, .im true]))
    (b_one (z_ret (x_tup (AD.to true true (a_cons (x_var 4) (a_cons (x_mod (x_add (x_var 4) (x_mul (x_int) (x_mod (x_var 3) (x_var 0)))) (x_var 0)) (a_nil))))))))))) rfl⟩
/-! ### _law_record -/
abbrev g_l_record : Gs := FamA.g_l_record
abbrev f_l_record : List Dt → O Dt := FamA.f_l_record
theorem ok_l_record (t : Tx K mg) : FnOk P w K mg base CX0 2 t.a_l_record t.d_l_record ["numbers", "most"] (spG K mg 2 f_l_record) := by
  have G_l_ends := ok_l_ends (P := P) (w := w) (base := base) t
  have nd : (["numbers", "most", "n", "many", "wide", "moment", "record", "k", "a", "b"] : List Str).Nodup := by decide +kernel
  exact fn_okN t.F_l_record (Δn := [.im false, .im false, .no, .no, .no, .no, .no, .no, .no, .no]) sc_l_record rfl rfl (by decide) fun cdv A outer s H E hr => ⟨_, BD.frm [.im false, .im false, .no, .no, .no, .no, .no, .no, .no, .no] (Δb := kd0 2 10 false) (Δc := kd0 2 10 false)
    (b_cons ((z_set 2 nd (x_add (x_int) (x_mod (x_ix (x_var 0) (x_int)) (x_int)))).to [.im false, .im false, .im true, .no, .no, .no, .no, .no, .no, .no])
    (b_cons (z_if (Δn := [.im false, .im false, .im true, .no, .no, .no, .no, .no, .no, .no]) (c_cmp (or_eq hr) (x_mod (x_div (x_ix (x_var 0) (x_int)) (x_int)) (x_int)) (x_int))
    ((b_one ((z_set 2 nd (x_add (x_int) (x_mod (x_div (x_ix (x_var 0) (x_int)) (x_int)) (x_int)))).to [.im false, .im false, .im true, .no, .no, .no, .no, .no, .no, .no])).to [.im false, .im false, .im true, .no, .no, .no, .no, .no, .no, .no])
    ((b_nil).to [.im false, .im false, .im true, .no, .no, .no, .no, .no, .no, .no]))
    (b_cons ((z_set 3 nd (x_mod (x_ix (x_var 0) (x_int)) (x_int))).to [.im false, .im false, .im true, .im true, .no, .no, .no, .no, .no, .no])
    (b_cons (z_if (Δn := [.im false, .im false, .im true, .im true, .no, .no, .no, .no, .no, .no]) (c_cmp (or_eq hr) (x_mod (x_div (x_ix (x_var 0) (x_int)) (x_int)) (x_int)) (x_int))
    ((b_one ((z_set 3 nd (x_add (x_int) (x_mod (x_div (x_ix (x_var 0) (x_int)) (x_int)) (x_int)))).to [.im false, .im false, .im true, .im true, .no, .no, .no, .no, .no, .no])).to [.im false, .im false, .im true, .im true, .no, .no, .no, .no, .no, .no])
    ((b_nil).to [.im false, .im false, .im true, .im true, .no, .no, .no, .no, .no, .no]))
    (b_cons ((z_set 4 nd (x_ix ((x_lst (AD.to true true (a_cons (x_int) (a_cons (x_int) (a_cons (x_pow (x_int) (x_int)) (a_nil)))))).nv) (x_mod (x_ix (x_var 0) (x_int)) (x_int)))).to [.im false, .im false, .im true, .im true, .im true, .no, .no, .no, .no, .no])
    (b_cons ((z_set 5 nd (x_ix ((x_lst (AD.to true true (a_cons (x_int) (a_cons (x_mod (x_div (x_ix (x_var 0) (x_int)) (x_int)) (x_int)) (a_cons (x_mod (x_ix (x_var 0) (x_int)) (x_pow (x_int) (x_int))) (a_nil)))))).nv) (x_mod (x_div (x_ix (x_var 0) (x_int)) (x_int)) (x_int)))).to [.im false, .im false, .im true, .im true, .im true, .im true, .no, .no, .no, .no])
    (b_cons ((z_setO 6 nd (x_lst (a_nil))).to [.im false, .im false, .im true, .im true, .im true, .im true, .own .l true, .no, .no, .no])
    (b_cons (z_for (n := 10) .never (i_rng1 t.n_range (AD.to true true (a_cons (x_min3 t.n_min (AD.to true false (a_cons (x_var 3) (a_cons (x_var 1) (a_cons (x_div (x_sub (x_len t.n_len (AD.to true false (a_cons (x_var 0) (a_nil)))) (x_int)) (x_int)) (a_nil)))))) (a_nil)))) (g_name 7 nd)
    ((b_cons ((z_asg (n := 10) (x_callN G_l_ends (hr.mono (by decide)) t.m_l_ends t.F_l_ends.kp t.b_l_ends pass0 (AD.to true false (a_cons (x_var 2) (a_cons (x_mod (x_ix (x_var 0) (x_int)) (x_int)) (a_cons (x_ix (x_var 0) (x_add (x_int) (x_mul (x_int) (x_var 7)))) (a_cons (x_ix (x_var 0) (x_add (x_int) (x_mul (x_int) (x_var 7)))) (a_nil))))))) (g_tup (m := 2) rfl (g_cons (g_name 8 nd) (g_cons (g_name 9 nd) (g_nil))) (tgCons_len (tgCons_len tgNil_len)))).to [.im false, .im false, .im true, .im true, .im true, .im true, .own .l true, .im true, .im true, .im true])
    (b_cons ((z_app 6 (x_tup (AD.to true true (a_cons (x_var 5) (a_cons (x_min2 t.n_min (AD.to true true (a_cons (x_var 8) (a_cons (x_var 9) (a_nil))))) (a_cons (x_max2 t.n_max (AD.to true true (a_cons (x_var 8) (a_cons (x_var 9) (a_nil))))) (a_nil))))))).to [.im false, .im false, .im true, .im true, .im true, .im true, .own .l true, .im true, .im true, .im true])
    (b_one ((z_set 5 nd (x_add (x_add (x_var 5) (x_int)) (x_mod (x_ix (x_var 0) (x_add (x_int) (x_mul (x_int) (x_var 7)))) (x_var 4)))).to [.im false, .im false, .im true, .im true, .im true, .im true, .own .l true, .im true, .im true, .im true])))).to [.im false, .im false, .im true, .im true, .im true, .im true, .own .l true, .no, .no, .no]))
    (b_one (z_ret (x_tup (AD.to false true (a_cons (x_var 2) (a_cons ((x_own 6).ov) (a_nil))))))))))))))) rfl⟩
/-! ### _law_thing -/
def g_l_thing : Gs := gSeqS (gSet 2 (gLst (gCons (gC (.int (0))) (gCons (gC (.int (7))) (gCons (gUn (hU fun i => -i) (gC (.int (1)))) (gCons (gOp hAdd (gC (.int (7))) (gVar 0)) (gCons (gOp hSub (gOp hSub (gC (.int (0))) (gC (.int (1)))) (gVar 0)) (gCons (gC (.bool true)) (gCons (gC (.bool false)) (gCons (gC .none) (gCons (gC (.str "2")) (gCons (gC (.str "")) (gCons (gLst (gCons (gC (.int (2))) (gNil))) (gCons (gTup (gCons (gC (.int (2))) (gNil))) (gCons (gDNew) (gCons (gDNew1 (gC (.int (2))) (gC (.int (2)))) (gCons (gTup (gNil)) (gCons (gLst (gNil)) (gNil))))))))))))))))))) (gRet (gOp hIx (gVar 2) (gOp hMod (gVar 1) (gC (.int (16))))))
def f_l_thing : List Dt → O Dt := fnN 3 g_l_thing
theorem ok_l_thing (t : Tx K mg) : FnOk P w K mg base CX0 1 t.a_l_thing t.d_l_thing ["far", "number"] (spG K mg 2 f_l_thing) := by
  have nd : (["far", "number", "some"] : List Str).Nodup := by decide +kernel
  exact fn_okN t.F_l_thing (Δn := [.im false, .im false, .no]) sc_l_thing rfl rfl (by decide) fun cdv A outer s H E hr => ⟨_, BD.frm [.im false, .im false, .no] (Δb := kd0 2 3 false) (Δc := kd0 2 3 false)
    (b_cons ((z_set 2 nd ((x_lst (AD.to true true (a_cons (x_int) (a_cons (x_int) (a_cons (x_neg (x_int)) (a_cons (x_add (x_int) (x_var 0)) (a_cons (x_sub (x_sub (x_int) (x_int)) (x_var 0)) (a_cons (x_bl) (a_cons (x_bl) (a_cons (x_non) (a_cons (x_str) (a_cons (x_str) (a_cons ((x_lst (AD.to true true (a_cons (x_int) (a_nil)))).nv) (a_cons (x_tup (AD.to true true (a_cons (x_int) (a_nil)))) (a_cons ((x_dnew).nvD) (a_cons ((x_dnew1 (x_int) (x_int)).nvD) (a_cons (x_tup (a_nil)) (a_cons ((x_lst (a_nil)).nv) (a_nil))))))))))))))))))).nv)).to [.im false, .im false, .im true])
    (b_one (z_ret (x_ix (x_var 2) (x_mod (x_var 1) (x_int)))))) rfl⟩
/-! ### _law_refused -/
def g_l_refused : Gs := gSeqS (gSet 4 (gC .none)) (gSeqS (gTry (gIfS (gTest (gOp hEq (gVar 3) (gC (.int (0))))) (gDrop (gCallX 3 f_layered (gCons (gVar 0) (gCons (gVar 1) (gCons (gVar 2) (gNil)))))) (gIfS (gTest (gOp hEq (gVar 3) (gC (.int (1))))) (gDrop (gCallX 4 f_layers_right (gCons (gVar 0) (gCons (gVar 1) (gCons (gVar 2) (gCons (gOp hRep (gLst (gCons (gC (.int (1))) (gNil))) (gCB hLen (gCons (gVar 1) (gNil)))) (gNil))))))) (gIfS (gTest (gOp hEq (gVar 3) (gC (.int (3))))) (gDrop (gCallX 4 f_layers_right (gCons (gVar 0) (gCons (gVar 1) (gCons (gVar 2) (gCons (gLst (gNil)) (gNil))))))) (gDrop (gCallX 4 f_strands (gCons (gVar 0) (gCons (gVar 1) (gCons (gVar 2) (gCons (gC (.int (0))) (gNil)))))))))) ["NoLayers"] [] 5 (gSet 4 (gVar 5))) (gSeqS (gIfS (gOr (gNot (gTest (gUn (hIsX [("NoLayers", true)]) (gVar 4)))) (gNot (gTest (gUn (hIsX [("NoLayers", true)]) (gVar 4))))) (gRet (gC (.bool false))) (gNext)) (gRet (gNotV (gUn (hIsX [("NoLayers", false)]) (gVar 4))))))
def f_l_refused : List Dt → O Dt := fnN 6 g_l_refused
theorem ok_l_refused (t : Tx K mg) : FnOk P w K mg base CX0 6 t.a_l_refused t.d_l_refused ["n", "record", "thing", "way"] (spG K mg 4 f_l_refused) := by
  have G_layered := ok_layered (P := P) (w := w) (base := base) t
  have G_layers_right := ok_layers_right (P := P) (w := w) (base := base) t
  have G_strands := ok_strands (P := P) (w := w) (base := base) t
  have nd : (["n", "record", "thing", "way", "caught", "e"] : List Str).Nodup := by decide +kernel
  exact fn_okN t.F_l_refused (Δn := [.im false, .im false, .im false, .im false, .no, .no]) sc_l_refused rfl rfl (by decide) fun cdv A outer s H E hr => ⟨_, BD.frm [.im false, .im false, .im false, .im false, .no, .no] (Δb := kd0 4 6 false) (Δc := kd0 4 6 false)
    (b_cons ((z_set 4 nd (x_non)).to [.im false, .im false, .im false, .im false, .im true, .no])
    (b_cons (z_tryX (Δn := [.im false, .im false, .im false, .im false, .im true, .no]) (yes := ["NoLayers"]) (no := []) 5 t.E_PlyError takes0 (co_cons t.E_NoLayers t.S_NoLayers_PlyError (co_nil)) (co_nil) (fun _ _ _ z => z.elim) nd (fun Wx pn xe tkk => BDx.to [.im false, .im false, .im false, .im false, .im true, .no] (y_one (y_if (Δn := [.im false, .im false, .im false, .im false, .im true, .no]) (c_cmp (or_eq hr) (x_var 3) (x_int)) (BDx.to [.im false, .im false, .im false, .im false, .im true, .no] (y_one (y_drop (x_callXL tkk G_layered (hr.mono (by decide)) t.m_layered t.F_layered.kp t.b_layered (AD.to true false (a_cons (x_var 0) (a_cons (x_var 1) (a_cons (x_var 2) (a_nil))))))))) (BDx.to [.im false, .im false, .im false, .im false, .im true, .no] (y_one (y_if (Δn := [.im false, .im false, .im false, .im false, .im true, .no]) (c_cmp (or_eq hr) (x_var 3) (x_int)) (BDx.to [.im false, .im false, .im false, .im false, .im true, .no] (y_one (y_drop (x_callXN tkk G_layers_right (hr.mono (by decide)) t.m_layers_right t.F_layers_right.kp t.b_layers_right (AD.to true false (a_cons (x_var 0) (a_cons (x_var 1) (a_cons (x_var 2) (a_cons ((x_rep (x_lst (AD.to true true (a_cons (x_int) (a_nil)))) (x_len t.n_len (AD.to true false (a_cons (x_var 1) (a_nil))))).nv) (a_nil)))))))))) (BDx.to [.im false, .im false, .im false, .im false, .im true, .no] (y_one (y_if (Δn := [.im false, .im false, .im false, .im false, .im true, .no]) (c_cmp (or_eq hr) (x_var 3) (x_int)) (BDx.to [.im false, .im false, .im false, .im false, .im true, .no] (y_one (y_drop (x_callXN tkk G_layers_right (hr.mono (by decide)) t.m_layers_right t.F_layers_right.kp t.b_layers_right (AD.to true false (a_cons (x_var 0) (a_cons (x_var 1) (a_cons (x_var 2) (a_cons ((x_lst (a_nil)).nv) (a_nil)))))))))) (BDx.to [.im false, .im false, .im false, .im false, .im true, .no] (y_one (y_drop (x_callXA tkk G_strands (hr.mono (by decide)) t.m_strands t.F_strands.kp t.b_strands (AD.to true false (a_cons (x_var 0) (a_cons (x_var 1) (a_cons (x_var 2) (a_cons (x_int) (a_nil))))))))))))))))))) (fun a pn => (b_one ((z_set 4 nd (x_var 5)).to [.im false, .im false, .im false, .im false, .im true, .im true])).to [.im false, .im false, .im false, .im false, .im true, .no]))
    (b_cons (z_if (Δn := [.im false, .im false, .im false, .im false, .im true, .no]) (c_w (w_or (c_not (c_val (x_isX t.n_isinstance t.E_NoLayers.g (tab_cons t.E_NoLayers (kit_yes t.E_NoLayers t.S_NoLayers_NoLayers) (tab_nil)) (x_var 4)))) (w_or1 (c_not (c_val (x_isXB t.n_isinstance t.n_ValueError (tab_cons t.E_NoLayers (kit_bi t.S_NoLayers_ValueError) (tab_nil)) (x_var 4)))))))
    (b_one (z_ret (x_bl)))
    ((b_nil).to [.im false, .im false, .im false, .im false, .im true, .no]))
    (b_one (z_ret (x_not (x_isXT t.n_isinstance (ca_cons t.E_Clash.g (ca_cons t.E_NoNet.g (ca_cons t.E_NoPair.g (ca_cons t.E_NoPlaces.g (ca_cons t.E_NoText.g (ca_cons t.E_NoTies.g (ca_cons t.E_Unlike.g (ca_nil)))))))) (tab_cons t.E_NoLayers (kany_cons (kit_no t.E_Clash t.S_NoLayers_Clash t.S_NoLayers_NoLayers) (kany_cons (kit_no t.E_NoNet t.S_NoLayers_NoNet t.S_NoLayers_NoLayers) (kany_cons (kit_no t.E_NoPair t.S_NoLayers_NoPair t.S_NoLayers_NoLayers) (kany_cons (kit_no t.E_NoPlaces t.S_NoLayers_NoPlaces t.S_NoLayers_NoLayers) (kany_cons (kit_no t.E_NoText t.S_NoLayers_NoText t.S_NoLayers_NoLayers) (kany_cons (kit_no t.E_NoTies t.S_NoLayers_NoTies t.S_NoLayers_NoLayers) (kany_cons (kit_no t.E_Unlike t.S_NoLayers_Unlike t.S_NoLayers_NoLayers) (rfl)))))))) (tab_nil)) (x_var 4)))))))) rfl⟩
/-! ### law -/
def g_law_L1 : Gs := gIfS (gNot (gTest (gCallN 4 f_l_refused (gCons (gVar 3) (gCons (gCB (one hListOf) (gCons (gVar 4) gNil)) (gCons (gVar 5) (gCons (gVar 6) (gNil)))))))) (gRet (gC (.bool false))) (gNext)
def g_law_L2 : Gs := gSeqS (gSet 2 (gCallN 3 f_l_numbers (gCons (gVar 1) (gCons (gC (.int (30))) (gCons (gOp hPow (gC (.int (10))) (gC (.int (30)))) (gNil)))))) (gSeqS (gAsg (gCallN 2 f_l_record (gCons (gSl hSl (gVar 2) (gPart (gC (.int (2)))) (gNoPart)) (gCons (gC (.int (8))) (gNil)))) (tgT (tgCons (tgN 3) (tgCons (tgN 4) (tgNil))))) (gSeqS (gSet 4 (gOp hCat (gVar 4) (gLst (gCons (gTup (gCons (gOp hPow (gC (.int (10))) (gC (.int (30)))) (gCons (gC (.int (0))) (gCons (gOp hSub (gVar 3) (gC (.int (1)))) (gNil))))) (gNil))))) (gSeqS (gSet 5 (gCallN 2 f_l_thing (gCons (gOp hIx (gVar 2) (gC (.int (0)))) (gCons (gOp hIx (gVar 2) (gC (.int (1)))) (gNil))))) (gSeqS (gFor (gRng1 (gCons (gC (.int (3))) (gNil))) (tgN 6) g_law_L1) (gSeqS (gIfS (gOr (gNot (gTest (gCallN 4 f_l_refused (gCons (gVar 3) (gCons (gLst (gNil)) (gCons (gVar 5) (gCons (gC (.int (0))) (gNil)))))))) (gNot (gTest (gCallN 4 f_l_refused (gCons (gVar 3) (gCons (gLst (gNil)) (gCons (gVar 5) (gCons (gC (.int (1))) (gNil))))))))) (gRet (gC (.bool false))) (gNext)) (gSeqS (gIfS (gNot (gTest (gCallN 4 f_l_refused (gCons (gVar 3) (gCons (gCB (one hListOf) (gCons (gVar 4) gNil)) (gCons (gVar 5) (gCons (gC (.int (3))) (gNil)))))))) (gRet (gC (.bool false))) (gNext)) (gSeqS (gIfS (gOr (gTest (gOp hNe (gCB hLen (gCons (gCallN 3 f_layered (gCons (gVar 3) (gCons (gCB (one hListOf) (gCons (gVar 4) gNil)) (gCons (gC (.int (1))) (gNil))))) (gNil))) (gCB hLen (gCons (gVar 4) (gNil))))) (gTest (gOp hNe (gCB hLen (gCons (gCallN 3 f_layered (gCons (gVar 3) (gCons (gCB (one hListOf) (gCons (gVar 4) gNil)) (gCons (gC (.int (6))) (gNil))))) (gNil))) (gCB hLen (gCons (gVar 4) (gNil)))))) (gRet (gC (.bool false))) (gNext)) (gSeqS (gIfS (gNot (gTest (gCallN 4 f_layers_right (gCons (gVar 3) (gCons (gVar 4) (gCons (gC (.int (6))) (gCons (gCallN 3 f_layered (gCons (gVar 3) (gCons (gVar 4) (gCons (gC (.int (6))) (gNil))))) (gNil)))))))) (gRet (gC (.bool false))) (gNext)) (gIfS (gTest (gOp hNotIn (gCallN 4 f_strands (gCons (gVar 3) (gCons (gVar 4) (gCons (gC (.int (1))) (gCons (gOp hSub (gCB hLen (gCons (gVar 4) (gNil))) (gC (.int (1)))) (gNil)))))) (gTup (gCons (gLst (gNil)) (gCons (gLst (gCons (gLst (gNil)) (gNil))) (gNil)))))) (gRet (gC (.bool false))) (gNext))))))))))
def g_law : Gs := gSeqS (gFor (gSeq (gOp hCat (gSl hSl (gVar 0) (gNoPart) (gPart (gC (.int (30))))) (gLst (gCons (gCB hLen (gCons (gVar 0) (gNil))) (gNil))))) (tgN 1) g_law_L2) (gRet (gC (.bool true)))
def f_law : List Dt → O Dt := fnN 7 g_law
theorem ok_law (t : Tx K mg) : FnOk P w K mg base CX0 7 t.a_law t.d_law ["script"] (spG K mg 1 f_law) := by
  have G_l_numbers := ok_l_numbers (P := P) (w := w) (base := base) t
  have G_l_record := ok_l_record (P := P) (w := w) (base := base) t
  have G_l_thing := ok_l_thing (P := P) (w := w) (base := base) t
  have G_l_refused := ok_l_refused (P := P) (w := w) (base := base) t
  have G_layered := ok_layered (P := P) (w := w) (base := base) t
  have G_layers_right := ok_layers_right (P := P) (w := w) (base := base) t
  have G_strands := ok_strands (P := P) (w := w) (base := base) t
  have nd : (["script", "cell", "numbers", "n", "record", "thing", "way"] : List Str).Nodup := by decide +kernel
  exact fn_okN t.F_law (Δn := [.im false, .no, .no, .no, .no, .no, .no]) sc_law rfl rfl (by decide) fun cdv A outer s H E hr => ⟨_, BD.frm [.im false, .no, .no, .no, .no, .no, .no] (Δb := kd0 1 7 false) (Δc := kd0 1 7 false)
    (b_cons (z_for (n := 7) .never (i_seq ((PD.wkN false (x_cat ((x_sl (x_var 0) (o_none) (o_some (x_int))).nv) ((x_lst (AD.to true true (a_cons (x_len t.n_len (AD.to true false (a_cons (x_var 0) (a_nil)))) (a_nil)))).nv))).nv)) (g_name 1 nd)
    ((b_cons ((z_set 2 nd ((x_callL G_l_numbers (hr.mono (by decide)) t.m_l_numbers t.F_l_numbers.kp t.b_l_numbers pass0 (AD.to true false (a_cons (x_var 1) (a_cons (x_int) (a_cons (x_pow (x_int) (x_int)) (a_nil)))))).nv)).to [.im false, .im false, .im true, .no, .no, .no, .no])
    (b_cons ((z_asg (n := 7) (x_callN G_l_record (hr.mono (by decide)) t.m_l_record t.F_l_record.kp t.b_l_record pass0 (AD.to true true (a_cons ((x_sl (x_var 2) (o_some (x_int)) (o_none)).nv) (a_cons (x_int) (a_nil))))) (g_tup (m := 2) rfl (g_cons (g_name 3 nd) (g_cons (g_name 4 nd) (g_nil))) (tgCons_len (tgCons_len tgNil_len)))).to [.im false, .im false, .im true, .im true, .im true, .no, .no])
    (b_cons ((z_set 4 nd ((PD.wkN true (x_cat (x_var 4) ((x_lst (AD.to true true (a_cons (x_tup (AD.to true true (a_cons (x_pow (x_int) (x_int)) (a_cons (x_int) (a_cons (x_sub (x_var 3) (x_int)) (a_nil)))))) (a_nil)))).nv))).nv)).to [.im false, .im false, .im true, .im true, .im true, .no, .no])
    (b_cons ((z_set 5 nd (x_callN G_l_thing (hr.mono (by decide)) t.m_l_thing t.F_l_thing.kp t.b_l_thing pass0 (AD.to true true (a_cons (x_ix (x_var 2) (x_int)) (a_cons (x_ix (x_var 2) (x_int)) (a_nil)))))).to [.im false, .im false, .im true, .im true, .im true, .im true, .no])
    (b_cons (z_for (n := 7) .never (i_rng1 t.n_range (AD.to true true (a_cons (x_int) (a_nil)))) (g_name 6 nd)
    ((b_one (z_if (Δn := [.im false, .im false, .im true, .im true, .im true, .im true, .im true]) (c_not (c_val (x_callN G_l_refused (hr.mono (by decide)) t.m_l_refused t.F_l_refused.kp t.b_l_refused pass0 (AD.to true true (a_cons (x_var 3) (a_cons ((x_list t.n_list (a_cons (x_var 4) a_nil)).nv) (a_cons (x_var 5) (a_cons (x_var 6) (a_nil)))))))))
    (b_one (z_ret (x_bl)))
    ((b_nil).to [.im false, .im false, .im true, .im true, .im true, .im true, .im true]))).to [.im false, .im false, .im true, .im true, .im true, .im true, .no]))
    (b_cons (z_if (Δn := [.im false, .im false, .im true, .im true, .im true, .im true, .no]) (c_w (w_or (c_not (c_val (x_callN G_l_refused (hr.mono (by decide)) t.m_l_refused t.F_l_refused.kp t.b_l_refused pass0 (AD.to true true (a_cons (x_var 3) (a_cons ((x_lst (a_nil)).nv) (a_cons (x_var 5) (a_cons (x_int) (a_nil))))))))) (w_or1 (c_not (c_val (x_callN G_l_refused (hr.mono (by decide)) t.m_l_refused t.F_l_refused.kp t.b_l_refused pass0 (AD.to true true (a_cons (x_var 3) (a_cons ((x_lst (a_nil)).nv) (a_cons (x_var 5) (a_cons (x_int) (a_nil))))))))))))
    (b_one (z_ret (x_bl)))
    ((b_nil).to [.im false, .im false, .im true, .im true, .im true, .im true, .no]))
    (b_cons (z_if (Δn := [.im false, .im false, .im true, .im true, .im true, .im true, .no]) (c_not (c_val (x_callN G_l_refused (hr.mono (by decide)) t.m_l_refused t.F_l_refused.kp t.b_l_refused pass0 (AD.to true true (a_cons (x_var 3) (a_cons ((x_list t.n_list (a_cons (x_var 4) a_nil)).nv) (a_cons (x_var 5) (a_cons (x_int) (a_nil)))))))))
    (b_one (z_ret (x_bl)))
    ((b_nil).to [.im false, .im false, .im true, .im true, .im true, .im true, .no]))
    (b_cons (z_if (Δn := [.im false, .im false, .im true, .im true, .im true, .im true, .no]) (c_w (w_or (c_cmp (or_ne hr) (x_len t.n_len (AD.to true true (a_cons ((x_callL G_layered (hr.mono (by decide)) t.m_layered t.F_layered.kp t.b_layered passL (AD.to true true (a_cons (x_var 3) (a_cons ((x_list t.n_list (a_cons (x_var 4) a_nil)).nv) (a_cons (x_int) (a_nil)))))).nv) (a_nil)))) (x_len t.n_len (AD.to true true (a_cons (x_var 4) (a_nil))))) (w_or1 (c_cmp (or_ne hr) (x_len t.n_len (AD.to true true (a_cons ((x_callL G_layered (hr.mono (by decide)) t.m_layered t.F_layered.kp t.b_layered passL (AD.to true true (a_cons (x_var 3) (a_cons ((x_list t.n_list (a_cons (x_var 4) a_nil)).nv) (a_cons (x_int) (a_nil)))))).nv) (a_nil)))) (x_len t.n_len (AD.to true true (a_cons (x_var 4) (a_nil))))))))
    (b_one (z_ret (x_bl)))
    ((b_nil).to [.im false, .im false, .im true, .im true, .im true, .im true, .no]))
    (b_cons (z_if (Δn := [.im false, .im false, .im true, .im true, .im true, .im true, .no]) (c_not (c_val (x_callN G_layers_right (hr.mono (by decide)) t.m_layers_right t.F_layers_right.kp t.b_layers_right passL (AD.to true true (a_cons (x_var 3) (a_cons (x_var 4) (a_cons (x_int) (a_cons ((x_callL G_layered (hr.mono (by decide)) t.m_layered t.F_layered.kp t.b_layered passL (AD.to true true (a_cons (x_var 3) (a_cons (x_var 4) (a_cons (x_int) (a_nil)))))).nv) (a_nil)))))))))
    (b_one (z_ret (x_bl)))
    ((b_nil).to [.im false, .im false, .im true, .im true, .im true, .im true, .no]))
    (b_one (z_if (Δn := [.im false, .im false, .im true, .im true, .im true, .im true, .no]) (c_cmp (or_notIn hr) (x_callA G_strands (hr.mono (by decide)) t.m_strands t.F_strands.kp t.b_strands passL (AD.to true true (a_cons (x_var 3) (a_cons (x_var 4) (a_cons (x_int) (a_cons (x_sub (x_len t.n_len (AD.to true true (a_cons (x_var 4) (a_nil)))) (x_int)) (a_nil))))))) (x_tup (AD.to true true (a_cons ((x_lst (a_nil)).nv) (a_cons ((x_lst (AD.to true true (a_cons ((x_lst (a_nil)).nv) (a_nil)))).nv) (a_nil))))))
    (b_one (z_ret (x_bl)))
    ((b_nil).to [.im false, .im false, .im true, .im true, .im true, .im true, .no])))))))))))).to [.im false, .no, .no, .no, .no, .no, .no]))
    (b_one (z_ret (x_bl)))) rfl⟩
end
/-! ### what the top has written -/
section
variable {w : World} {K : PySem.W.Frag} {h : Heap} {mg : Str → Option Value}
def mkTx (X : K.In h) (G : h.Ns mainGlobals mg)
    {f0 : Addr} {od0 an0 : Option Addr} {sl0 : Array (Option Value)} {oc0 kV0 dc0 pm0 cd0 ct0 : Value}
        (a0 : PySem.W.nsIn K mainGlobals "is_whole" = some (some (.ref f0))) (l0 : K.lookup f0 = some ⟨oc0, od0, .func (PySem.W.fnOf "is_whole" "is_whole" (defArgs st_is_whole) (defBody st_is_whole) (defScope st_is_whole) .none kV0 dc0 pm0 an0 cd0 ct0), sl0⟩) (c0 : PySem.W.codeIn K cd0 "is_whole" = true) (k0 : PySem.W.keepIn K (.ref f0) = true)
    {f1 : Addr} {od1 an1 : Option Addr} {sl1 : Array (Option Value)} {oc1 kV1 dc1 pm1 cd1 ct1 : Value}
        (a1 : PySem.W.nsIn K mainGlobals "joined" = some (some (.ref f1))) (l1 : K.lookup f1 = some ⟨oc1, od1, .func (PySem.W.fnOf "joined" "joined" (defArgs st_joined) (defBody st_joined) (defScope st_joined) .none kV1 dc1 pm1 an1 cd1 ct1), sl1⟩) (c1 : PySem.W.codeIn K cd1 "joined" = true) (k1 : PySem.W.keepIn K (.ref f1) = true)
    {f2 : Addr} {od2 an2 : Option Addr} {sl2 : Array (Option Value)} {oc2 kV2 dc2 pm2 cd2 ct2 : Value}
        (a2 : PySem.W.nsIn K mainGlobals "is_depth" = some (some (.ref f2))) (l2 : K.lookup f2 = some ⟨oc2, od2, .func (PySem.W.fnOf "is_depth" "is_depth" (defArgs st_is_depth) (defBody st_is_depth) (defScope st_is_depth) .none kV2 dc2 pm2 an2 cd2 ct2), sl2⟩) (c2 : PySem.W.codeIn K cd2 "is_depth" = true) (k2 : PySem.W.keepIn K (.ref f2) = true)
    {f3 : Addr} {od3 an3 : Option Addr} {sl3 : Array (Option Value)} {oc3 kV3 dc3 pm3 cd3 ct3 : Value}
        (a3 : PySem.W.nsIn K mainGlobals "look_at_layers" = some (some (.ref f3))) (l3 : K.lookup f3 = some ⟨oc3, od3, .func (PySem.W.fnOf "look_at_layers" "look_at_layers" (defArgs st_look_at_layers) (defBody st_look_at_layers) (defScope st_look_at_layers) .none kV3 dc3 pm3 an3 cd3 ct3), sl3⟩) (c3 : PySem.W.codeIn K cd3 "look_at_layers" = true) (k3 : PySem.W.keepIn K (.ref f3) = true)
    {f4 : Addr} {od4 an4 : Option Addr} {sl4 : Array (Option Value)} {oc4 kV4 dc4 pm4 cd4 ct4 : Value}
        (a4 : PySem.W.nsIn K mainGlobals "layer_for" = some (some (.ref f4))) (l4 : K.lookup f4 = some ⟨oc4, od4, .func (PySem.W.fnOf "layer_for" "layer_for" (defArgs st_layer_for) (defBody st_layer_for) (defScope st_layer_for) .none kV4 dc4 pm4 an4 cd4 ct4), sl4⟩) (c4 : PySem.W.codeIn K cd4 "layer_for" = true) (k4 : PySem.W.keepIn K (.ref f4) = true)
    {f5 : Addr} {od5 an5 : Option Addr} {sl5 : Array (Option Value)} {oc5 kV5 dc5 pm5 cd5 ct5 : Value}
        (a5 : PySem.W.nsIn K mainGlobals "layered" = some (some (.ref f5))) (l5 : K.lookup f5 = some ⟨oc5, od5, .func (PySem.W.fnOf "layered" "layered" (defArgs st_layered) (defBody st_layered) (defScope st_layered) .none kV5 dc5 pm5 an5 cd5 ct5), sl5⟩) (c5 : PySem.W.codeIn K cd5 "layered" = true) (k5 : PySem.W.keepIn K (.ref f5) = true)
    {f6 : Addr} {od6 an6 : Option Addr} {sl6 : Array (Option Value)} {oc6 kV6 dc6 pm6 cd6 ct6 : Value}
        (a6 : PySem.W.nsIn K mainGlobals "layers_right" = some (some (.ref f6))) (l6 : K.lookup f6 = some ⟨oc6, od6, .func (PySem.W.fnOf "layers_right" "layers_right" (defArgs st_layers_right) (defBody st_layers_right) (defScope st_layers_right) .none kV6 dc6 pm6 an6 cd6 ct6), sl6⟩) (c6 : PySem.W.codeIn K cd6 "layers_right" = true) (k6 : PySem.W.keepIn K (.ref f6) = true)
    {f7 : Addr} {od7 an7 : Option Addr} {sl7 : Array (Option Value)} {oc7 kV7 dc7 pm7 cd7 ct7 : Value}
        (a7 : PySem.W.nsIn K mainGlobals "way_in" = some (some (.ref f7))) (l7 : K.lookup f7 = some ⟨oc7, od7, .func (PySem.W.fnOf "way_in" "way_in" (defArgs st_way_in) (defBody st_way_in) (defScope st_way_in) .none kV7 dc7 pm7 an7 cd7 ct7), sl7⟩) (c7 : PySem.W.codeIn K cd7 "way_in" = true) (k7 : PySem.W.keepIn K (.ref f7) = true)
    {f8 : Addr} {od8 an8 : Option Addr} {sl8 : Array (Option Value)} {oc8 kV8 dc8 pm8 cd8 ct8 : Value}
        (a8 : PySem.W.nsIn K mainGlobals "strands" = some (some (.ref f8))) (l8 : K.lookup f8 = some ⟨oc8, od8, .func (PySem.W.fnOf "strands" "strands" (defArgs st_strands) (defBody st_strands) (defScope st_strands) .none kV8 dc8 pm8 an8 cd8 ct8), sl8⟩) (c8 : PySem.W.codeIn K cd8 "strands" = true) (k8 : PySem.W.keepIn K (.ref f8) = true)
    {f9 : Addr} {od9 an9 : Option Addr} {sl9 : Array (Option Value)} {oc9 kV9 dc9 pm9 cd9 ct9 : Value}
        (a9 : PySem.W.nsIn K mainGlobals "_law_mixed" = some (some (.ref f9))) (l9 : K.lookup f9 = some ⟨oc9, od9, .func (PySem.W.fnOf "_law_mixed" "_law_mixed" (defArgs st_l_mixed) (defBody st_l_mixed) (defScope st_l_mixed) .none kV9 dc9 pm9 an9 cd9 ct9), sl9⟩) (c9 : PySem.W.codeIn K cd9 "_law_mixed" = true) (k9 : PySem.W.keepIn K (.ref f9) = true)
    {f10 : Addr} {od10 an10 : Option Addr} {sl10 : Array (Option Value)} {oc10 kV10 dc10 pm10 cd10 ct10 : Value}
        (a10 : PySem.W.nsIn K mainGlobals "_law_numbers" = some (some (.ref f10))) (l10 : K.lookup f10 = some ⟨oc10, od10, .func (PySem.W.fnOf "_law_numbers" "_law_numbers" (defArgs st_l_numbers) (defBody st_l_numbers) (defScope st_l_numbers) .none kV10 dc10 pm10 an10 cd10 ct10), sl10⟩) (c10 : PySem.W.codeIn K cd10 "_law_numbers" = true) (k10 : PySem.W.keepIn K (.ref f10) = true)
    {f11 : Addr} {od11 an11 : Option Addr} {sl11 : Array (Option Value)} {oc11 kV11 dc11 pm11 cd11 ct11 : Value}
        (a11 : PySem.W.nsIn K mainGlobals "_law_ends" = some (some (.ref f11))) (l11 : K.lookup f11 = some ⟨oc11, od11, .func (PySem.W.fnOf "_law_ends" "_law_ends" (defArgs st_l_ends) (defBody st_l_ends) (defScope st_l_ends) .none kV11 dc11 pm11 an11 cd11 ct11), sl11⟩) (c11 : PySem.W.codeIn K cd11 "_law_ends" = true) (k11 : PySem.W.keepIn K (.ref f11) = true)
    {f12 : Addr} {od12 an12 : Option Addr} {sl12 : Array (Option Value)} {oc12 kV12 dc12 pm12 cd12 ct12 : Value}
        (a12 : PySem.W.nsIn K mainGlobals "_law_record" = some (some (.ref f12))) (l12 : K.lookup f12 = some ⟨oc12, od12, .func (PySem.W.fnOf "_law_record" "_law_record" (defArgs st_l_record) (defBody st_l_record) (defScope st_l_record) .none kV12 dc12 pm12 an12 cd12 ct12), sl12⟩) (c12 : PySem.W.codeIn K cd12 "_law_record" = true) (k12 : PySem.W.keepIn K (.ref f12) = true)
    {f13 : Addr} {od13 an13 : Option Addr} {sl13 : Array (Option Value)} {oc13 kV13 dc13 pm13 cd13 ct13 : Value}
        (a13 : PySem.W.nsIn K mainGlobals "_law_thing" = some (some (.ref f13))) (l13 : K.lookup f13 = some ⟨oc13, od13, .func (PySem.W.fnOf "_law_thing" "_law_thing" (defArgs st_l_thing) (defBody st_l_thing) (defScope st_l_thing) .none kV13 dc13 pm13 an13 cd13 ct13), sl13⟩) (c13 : PySem.W.codeIn K cd13 "_law_thing" = true) (k13 : PySem.W.keepIn K (.ref f13) = true)
    {f14 : Addr} {od14 an14 : Option Addr} {sl14 : Array (Option Value)} {oc14 kV14 dc14 pm14 cd14 ct14 : Value}
        (a14 : PySem.W.nsIn K mainGlobals "_law_refused" = some (some (.ref f14))) (l14 : K.lookup f14 = some ⟨oc14, od14, .func (PySem.W.fnOf "_law_refused" "_law_refused" (defArgs st_l_refused) (defBody st_l_refused) (defScope st_l_refused) .none kV14 dc14 pm14 an14 cd14 ct14), sl14⟩) (c14 : PySem.W.codeIn K cd14 "_law_refused" = true) (k14 : PySem.W.keepIn K (.ref f14) = true)
    {f15 : Addr} {od15 an15 : Option Addr} {sl15 : Array (Option Value)} {oc15 kV15 dc15 pm15 cd15 ct15 : Value}
        (a15 : PySem.W.nsIn K mainGlobals "law" = some (some (.ref f15))) (l15 : K.lookup f15 = some ⟨oc15, od15, .func (PySem.W.fnOf "law" "law" (defArgs st_law) (defBody st_law) (defScope st_law) .none kV15 dc15 pm15 an15 cd15 ct15), sl15⟩) (c15 : PySem.W.codeIn K cd15 "law" = true) (k15 : PySem.W.keepIn K (.ref f15) = true)
        (z_isinstance : PySem.W.nsIn K mainGlobals "isinstance" = some none)
        (z_int : PySem.W.nsIn K mainGlobals "int" = some none)
        (z_bool : PySem.W.nsIn K mainGlobals "bool" = some none)
        (z_min : PySem.W.nsIn K mainGlobals "min" = some none)
        (z_max : PySem.W.nsIn K mainGlobals "max" = some none)
        (z_enumerate : PySem.W.nsIn K mainGlobals "enumerate" = some none)
        (z_range : PySem.W.nsIn K mainGlobals "range" = some none)
        (z_list : PySem.W.nsIn K mainGlobals "list" = some none)
        (z_reversed : PySem.W.nsIn K mainGlobals "reversed" = some none)
        (z_len : PySem.W.nsIn K mainGlobals "len" = some none)
        (z_zip : PySem.W.nsIn K mainGlobals "zip" = some none)
        (z_ValueError : PySem.W.nsIn K mainGlobals "ValueError" = some none)
        {tk_MOST_LAYERS : Tok} (y_MOST_LAYERS : PySem.W.nsIn K mainGlobals "MOST_LAYERS" = some (some (.int (6) tk_MOST_LAYERS)))
        {C_NoLayers : Addr} (u1_NoLayers : PySem.W.nsIn K mainGlobals "NoLayers" = some (some (.ref C_NoLayers))) (u2_NoLayers : PySem.W.keepIn K (.ref C_NoLayers) = true) (u3_NoLayers : PySem.W.typeIn K (.ref C_NoLayers) = some (.type "type"))
        (u4_NoLayers : PySem.W.findIn K (.ref C_NoLayers) "__getattribute__" = some (some (.builtin "BaseException.__getattribute__"))) (u5_NoLayers : PySem.W.findIn K (.ref C_NoLayers) "__getattr__" = some none) (u6_NoLayers : PySem.W.subIn K (.ref C_NoLayers) (.type "BaseException") = some true) (u7_NoLayers : PySem.W.hasDictIn K C_NoLayers = true) (u8_NoLayers : PySem.W.findIn K (.ref C_NoLayers) "__class__" = some (some (.builtin "object.__class__"))) (u9_NoLayers : PySem.W.mroIn K C_NoLayers (.type "object") = some true)
        (uQ_NoLayers : PySem.W.excIn K C_NoLayers veB "ValueError.__new__" = true)
        {C_PlyError : Addr} (u1_PlyError : PySem.W.nsIn K mainGlobals "PlyError" = some (some (.ref C_PlyError))) (u2_PlyError : PySem.W.keepIn K (.ref C_PlyError) = true) (u3_PlyError : PySem.W.typeIn K (.ref C_PlyError) = some (.type "type"))
        (u4_PlyError : PySem.W.findIn K (.ref C_PlyError) "__getattribute__" = some (some (.builtin "BaseException.__getattribute__"))) (u5_PlyError : PySem.W.findIn K (.ref C_PlyError) "__getattr__" = some none) (u6_PlyError : PySem.W.subIn K (.ref C_PlyError) (.type "BaseException") = some true) (u7_PlyError : PySem.W.hasDictIn K C_PlyError = true) (u8_PlyError : PySem.W.findIn K (.ref C_PlyError) "__class__" = some (some (.builtin "object.__class__"))) (u9_PlyError : PySem.W.mroIn K C_PlyError (.type "object") = some true)
        {C_Unlike : Addr} (u1_Unlike : PySem.W.nsIn K mainGlobals "Unlike" = some (some (.ref C_Unlike))) (u2_Unlike : PySem.W.keepIn K (.ref C_Unlike) = true) (u3_Unlike : PySem.W.typeIn K (.ref C_Unlike) = some (.type "type"))
        (u4_Unlike : PySem.W.findIn K (.ref C_Unlike) "__getattribute__" = some (some (.builtin "BaseException.__getattribute__"))) (u5_Unlike : PySem.W.findIn K (.ref C_Unlike) "__getattr__" = some none) (u6_Unlike : PySem.W.subIn K (.ref C_Unlike) (.type "BaseException") = some true) (u7_Unlike : PySem.W.hasDictIn K C_Unlike = true) (u8_Unlike : PySem.W.findIn K (.ref C_Unlike) "__class__" = some (some (.builtin "object.__class__"))) (u9_Unlike : PySem.W.mroIn K C_Unlike (.type "object") = some true)
        {C_NoTies : Addr} (u1_NoTies : PySem.W.nsIn K mainGlobals "NoTies" = some (some (.ref C_NoTies))) (u2_NoTies : PySem.W.keepIn K (.ref C_NoTies) = true) (u3_NoTies : PySem.W.typeIn K (.ref C_NoTies) = some (.type "type"))
        (u4_NoTies : PySem.W.findIn K (.ref C_NoTies) "__getattribute__" = some (some (.builtin "BaseException.__getattribute__"))) (u5_NoTies : PySem.W.findIn K (.ref C_NoTies) "__getattr__" = some none) (u6_NoTies : PySem.W.subIn K (.ref C_NoTies) (.type "BaseException") = some true) (u7_NoTies : PySem.W.hasDictIn K C_NoTies = true) (u8_NoTies : PySem.W.findIn K (.ref C_NoTies) "__class__" = some (some (.builtin "object.__class__"))) (u9_NoTies : PySem.W.mroIn K C_NoTies (.type "object") = some true)
        {C_NoText : Addr} (u1_NoText : PySem.W.nsIn K mainGlobals "NoText" = some (some (.ref C_NoText))) (u2_NoText : PySem.W.keepIn K (.ref C_NoText) = true) (u3_NoText : PySem.W.typeIn K (.ref C_NoText) = some (.type "type"))
        (u4_NoText : PySem.W.findIn K (.ref C_NoText) "__getattribute__" = some (some (.builtin "BaseException.__getattribute__"))) (u5_NoText : PySem.W.findIn K (.ref C_NoText) "__getattr__" = some none) (u6_NoText : PySem.W.subIn K (.ref C_NoText) (.type "BaseException") = some true) (u7_NoText : PySem.W.hasDictIn K C_NoText = true) (u8_NoText : PySem.W.findIn K (.ref C_NoText) "__class__" = some (some (.builtin "object.__class__"))) (u9_NoText : PySem.W.mroIn K C_NoText (.type "object") = some true)
        {C_NoPlaces : Addr} (u1_NoPlaces : PySem.W.nsIn K mainGlobals "NoPlaces" = some (some (.ref C_NoPlaces))) (u2_NoPlaces : PySem.W.keepIn K (.ref C_NoPlaces) = true) (u3_NoPlaces : PySem.W.typeIn K (.ref C_NoPlaces) = some (.type "type"))
        (u4_NoPlaces : PySem.W.findIn K (.ref C_NoPlaces) "__getattribute__" = some (some (.builtin "BaseException.__getattribute__"))) (u5_NoPlaces : PySem.W.findIn K (.ref C_NoPlaces) "__getattr__" = some none) (u6_NoPlaces : PySem.W.subIn K (.ref C_NoPlaces) (.type "BaseException") = some true) (u7_NoPlaces : PySem.W.hasDictIn K C_NoPlaces = true) (u8_NoPlaces : PySem.W.findIn K (.ref C_NoPlaces) "__class__" = some (some (.builtin "object.__class__"))) (u9_NoPlaces : PySem.W.mroIn K C_NoPlaces (.type "object") = some true)
        {C_NoPair : Addr} (u1_NoPair : PySem.W.nsIn K mainGlobals "NoPair" = some (some (.ref C_NoPair))) (u2_NoPair : PySem.W.keepIn K (.ref C_NoPair) = true) (u3_NoPair : PySem.W.typeIn K (.ref C_NoPair) = some (.type "type"))
        (u4_NoPair : PySem.W.findIn K (.ref C_NoPair) "__getattribute__" = some (some (.builtin "BaseException.__getattribute__"))) (u5_NoPair : PySem.W.findIn K (.ref C_NoPair) "__getattr__" = some none) (u6_NoPair : PySem.W.subIn K (.ref C_NoPair) (.type "BaseException") = some true) (u7_NoPair : PySem.W.hasDictIn K C_NoPair = true) (u8_NoPair : PySem.W.findIn K (.ref C_NoPair) "__class__" = some (some (.builtin "object.__class__"))) (u9_NoPair : PySem.W.mroIn K C_NoPair (.type "object") = some true)
        {C_NoNet : Addr} (u1_NoNet : PySem.W.nsIn K mainGlobals "NoNet" = some (some (.ref C_NoNet))) (u2_NoNet : PySem.W.keepIn K (.ref C_NoNet) = true) (u3_NoNet : PySem.W.typeIn K (.ref C_NoNet) = some (.type "type"))
        (u4_NoNet : PySem.W.findIn K (.ref C_NoNet) "__getattribute__" = some (some (.builtin "BaseException.__getattribute__"))) (u5_NoNet : PySem.W.findIn K (.ref C_NoNet) "__getattr__" = some none) (u6_NoNet : PySem.W.subIn K (.ref C_NoNet) (.type "BaseException") = some true) (u7_NoNet : PySem.W.hasDictIn K C_NoNet = true) (u8_NoNet : PySem.W.findIn K (.ref C_NoNet) "__class__" = some (some (.builtin "object.__class__"))) (u9_NoNet : PySem.W.mroIn K C_NoNet (.type "object") = some true)
        {C_Clash : Addr} (u1_Clash : PySem.W.nsIn K mainGlobals "Clash" = some (some (.ref C_Clash))) (u2_Clash : PySem.W.keepIn K (.ref C_Clash) = true) (u3_Clash : PySem.W.typeIn K (.ref C_Clash) = some (.type "type"))
        (u4_Clash : PySem.W.findIn K (.ref C_Clash) "__getattribute__" = some (some (.builtin "BaseException.__getattribute__"))) (u5_Clash : PySem.W.findIn K (.ref C_Clash) "__getattr__" = some none) (u6_Clash : PySem.W.subIn K (.ref C_Clash) (.type "BaseException") = some true) (u7_Clash : PySem.W.hasDictIn K C_Clash = true) (u8_Clash : PySem.W.findIn K (.ref C_Clash) "__class__" = some (some (.builtin "object.__class__"))) (u9_Clash : PySem.W.mroIn K C_Clash (.type "object") = some true)
        (un : PySem.W.specialIn K (.builtin "object.__class__") "__get__" = some (some (.builtin "getset_descriptor.__get__"))) (ut : PySem.W.takesIn K (.builtin "object.__class__") = some true)
        (uS_NoLayers_PlyError : PySem.W.subIn K (.ref C_NoLayers) (.ref C_PlyError) = some true)
        (uS_NoLayers_NoLayers : PySem.W.subIn K (.ref C_NoLayers) (.ref C_NoLayers) = some true)
        (uS_NoLayers_ValueError : PySem.W.subIn K (.ref C_NoLayers) (.type "ValueError") = some true)
        (uS_NoLayers_Unlike : PySem.W.subIn K (.ref C_NoLayers) (.ref C_Unlike) = some false)
        (uS_NoLayers_NoTies : PySem.W.subIn K (.ref C_NoLayers) (.ref C_NoTies) = some false)
        (uS_NoLayers_NoText : PySem.W.subIn K (.ref C_NoLayers) (.ref C_NoText) = some false)
        (uS_NoLayers_NoPlaces : PySem.W.subIn K (.ref C_NoLayers) (.ref C_NoPlaces) = some false)
        (uS_NoLayers_NoPair : PySem.W.subIn K (.ref C_NoLayers) (.ref C_NoPair) = some false)
        (uS_NoLayers_NoNet : PySem.W.subIn K (.ref C_NoLayers) (.ref C_NoNet) = some false)
        (uS_NoLayers_Clash : PySem.W.subIn K (.ref C_NoLayers) (.ref C_Clash) = some false) : Tx K mg where
  a_is_whole := f0
  d_is_whole := _
  F_is_whole := fun_mk (st := st_is_whole) l0 c0 k0
  m_is_whole := PySem.W.mg_of X G a0
  b_is_whole := (fun_mk (st := st_is_whole) l0 c0 k0).binds fun _ _ _ _ _ _ us hl => match us, hl with | [_], _ => rfl
  a_joined := f1
  d_joined := _
  F_joined := fun_mk (st := st_joined) l1 c1 k1
  m_joined := PySem.W.mg_of X G a1
  b_joined := (fun_mk (st := st_joined) l1 c1 k1).binds fun _ _ _ _ _ _ us hl => match us, hl with | [_, _, _], _ => rfl
  a_is_depth := f2
  d_is_depth := _
  F_is_depth := fun_mk (st := st_is_depth) l2 c2 k2
  m_is_depth := PySem.W.mg_of X G a2
  b_is_depth := (fun_mk (st := st_is_depth) l2 c2 k2).binds fun _ _ _ _ _ _ us hl => match us, hl with | [_], _ => rfl
  a_look_at_layers := f3
  d_look_at_layers := _
  F_look_at_layers := fun_mk (st := st_look_at_layers) l3 c3 k3
  m_look_at_layers := PySem.W.mg_of X G a3
  b_look_at_layers := (fun_mk (st := st_look_at_layers) l3 c3 k3).binds fun _ _ _ _ _ _ us hl => match us, hl with | [_], _ => rfl
  a_layer_for := f4
  d_layer_for := _
  F_layer_for := fun_mk (st := st_layer_for) l4 c4 k4
  m_layer_for := PySem.W.mg_of X G a4
  b_layer_for := (fun_mk (st := st_layer_for) l4 c4 k4).binds fun _ _ _ _ _ _ us hl => match us, hl with | [_, _, _], _ => rfl
  a_layered := f5
  d_layered := _
  F_layered := fun_mk (st := st_layered) l5 c5 k5
  m_layered := PySem.W.mg_of X G a5
  b_layered := (fun_mk (st := st_layered) l5 c5 k5).binds fun _ _ _ _ _ _ us hl => match us, hl with | [_, _, _], _ => rfl
  a_layers_right := f6
  d_layers_right := _
  F_layers_right := fun_mk (st := st_layers_right) l6 c6 k6
  m_layers_right := PySem.W.mg_of X G a6
  b_layers_right := (fun_mk (st := st_layers_right) l6 c6 k6).binds fun _ _ _ _ _ _ us hl => match us, hl with | [_, _, _, _], _ => rfl
  a_way_in := f7
  d_way_in := _
  F_way_in := fun_mk (st := st_way_in) l7 c7 k7
  m_way_in := PySem.W.mg_of X G a7
  b_way_in := (fun_mk (st := st_way_in) l7 c7 k7).binds fun _ _ _ _ _ _ us hl => match us, hl with | [_, _, _], _ => rfl
  a_strands := f8
  d_strands := _
  F_strands := fun_mk (st := st_strands) l8 c8 k8
  m_strands := PySem.W.mg_of X G a8
  b_strands := (fun_mk (st := st_strands) l8 c8 k8).binds fun _ _ _ _ _ _ us hl => match us, hl with | [_, _, _, _], _ => rfl
  a_l_mixed := f9
  d_l_mixed := _
  F_l_mixed := fun_mk (st := st_l_mixed) l9 c9 k9
  m_l_mixed := PySem.W.mg_of X G a9
  b_l_mixed := (fun_mk (st := st_l_mixed) l9 c9 k9).binds fun _ _ _ _ _ _ us hl => match us, hl with | [_, _], _ => rfl
  a_l_numbers := f10
  d_l_numbers := _
  F_l_numbers := fun_mk (st := st_l_numbers) l10 c10 k10
  m_l_numbers := PySem.W.mg_of X G a10
  b_l_numbers := (fun_mk (st := st_l_numbers) l10 c10 k10).binds fun _ _ _ _ _ _ us hl => match us, hl with | [_, _, _], _ => rfl
  a_l_ends := f11
  d_l_ends := _
  F_l_ends := fun_mk (st := st_l_ends) l11 c11 k11
  m_l_ends := PySem.W.mg_of X G a11
  b_l_ends := (fun_mk (st := st_l_ends) l11 c11 k11).binds fun _ _ _ _ _ _ us hl => match us, hl with | [_, _, _, _], _ => rfl
  a_l_record := f12
  d_l_record := _
  F_l_record := fun_mk (st := st_l_record) l12 c12 k12
  m_l_record := PySem.W.mg_of X G a12
  b_l_record := (fun_mk (st := st_l_record) l12 c12 k12).binds fun _ _ _ _ _ _ us hl => match us, hl with | [_, _], _ => rfl
  a_l_thing := f13
  d_l_thing := _
  F_l_thing := fun_mk (st := st_l_thing) l13 c13 k13
  m_l_thing := PySem.W.mg_of X G a13
  b_l_thing := (fun_mk (st := st_l_thing) l13 c13 k13).binds fun _ _ _ _ _ _ us hl => match us, hl with | [_, _], _ => rfl
  a_l_refused := f14
  d_l_refused := _
  F_l_refused := fun_mk (st := st_l_refused) l14 c14 k14
  m_l_refused := PySem.W.mg_of X G a14
  b_l_refused := (fun_mk (st := st_l_refused) l14 c14 k14).binds fun _ _ _ _ _ _ us hl => match us, hl with | [_, _, _, _], _ => rfl
  a_law := f15
  d_law := _
  F_law := fun_mk (st := st_law) l15 c15 k15
  m_law := PySem.W.mg_of X G a15
  b_law := (fun_mk (st := st_law) l15 c15 k15).binds fun _ _ _ _ _ _ us hl => match us, hl with | [_], _ => rfl
  n_isinstance := PySem.W.mg_none_of X G z_isinstance
  n_int := PySem.W.mg_none_of X G z_int
  n_bool := PySem.W.mg_none_of X G z_bool
  n_min := PySem.W.mg_none_of X G z_min
  n_max := PySem.W.mg_none_of X G z_max
  n_enumerate := PySem.W.mg_none_of X G z_enumerate
  n_range := PySem.W.mg_none_of X G z_range
  n_list := PySem.W.mg_none_of X G z_list
  n_reversed := PySem.W.mg_none_of X G z_reversed
  n_len := PySem.W.mg_none_of X G z_len
  n_zip := PySem.W.mg_none_of X G z_zip
  n_ValueError := PySem.W.mg_none_of X G z_ValueError
  c_MOST_LAYERS := ⟨tk_MOST_LAYERS, PySem.W.mg_of X G y_MOST_LAYERS⟩
  C_NoLayers := C_NoLayers
  E_NoLayers := ⟨PySem.W.mg_of X G u1_NoLayers, u1_NoLayers, u2_NoLayers, u3_NoLayers, ⟨u4_NoLayers, u5_NoLayers, u6_NoLayers, u7_NoLayers, u8_NoLayers, un, ut, u9_NoLayers⟩⟩
  Q_NoLayers := uQ_NoLayers
  C_PlyError := C_PlyError
  E_PlyError := ⟨PySem.W.mg_of X G u1_PlyError, u1_PlyError, u2_PlyError, u3_PlyError, ⟨u4_PlyError, u5_PlyError, u6_PlyError, u7_PlyError, u8_PlyError, un, ut, u9_PlyError⟩⟩
  C_Unlike := C_Unlike
  E_Unlike := ⟨PySem.W.mg_of X G u1_Unlike, u1_Unlike, u2_Unlike, u3_Unlike, ⟨u4_Unlike, u5_Unlike, u6_Unlike, u7_Unlike, u8_Unlike, un, ut, u9_Unlike⟩⟩
  C_NoTies := C_NoTies
  E_NoTies := ⟨PySem.W.mg_of X G u1_NoTies, u1_NoTies, u2_NoTies, u3_NoTies, ⟨u4_NoTies, u5_NoTies, u6_NoTies, u7_NoTies, u8_NoTies, un, ut, u9_NoTies⟩⟩
  C_NoText := C_NoText
  E_NoText := ⟨PySem.W.mg_of X G u1_NoText, u1_NoText, u2_NoText, u3_NoText, ⟨u4_NoText, u5_NoText, u6_NoText, u7_NoText, u8_NoText, un, ut, u9_NoText⟩⟩
  C_NoPlaces := C_NoPlaces
  E_NoPlaces := ⟨PySem.W.mg_of X G u1_NoPlaces, u1_NoPlaces, u2_NoPlaces, u3_NoPlaces, ⟨u4_NoPlaces, u5_NoPlaces, u6_NoPlaces, u7_NoPlaces, u8_NoPlaces, un, ut, u9_NoPlaces⟩⟩
  C_NoPair := C_NoPair
  E_NoPair := ⟨PySem.W.mg_of X G u1_NoPair, u1_NoPair, u2_NoPair, u3_NoPair, ⟨u4_NoPair, u5_NoPair, u6_NoPair, u7_NoPair, u8_NoPair, un, ut, u9_NoPair⟩⟩
  C_NoNet := C_NoNet
  E_NoNet := ⟨PySem.W.mg_of X G u1_NoNet, u1_NoNet, u2_NoNet, u3_NoNet, ⟨u4_NoNet, u5_NoNet, u6_NoNet, u7_NoNet, u8_NoNet, un, ut, u9_NoNet⟩⟩
  C_Clash := C_Clash
  E_Clash := ⟨PySem.W.mg_of X G u1_Clash, u1_Clash, u2_Clash, u3_Clash, ⟨u4_Clash, u5_Clash, u6_Clash, u7_Clash, u8_Clash, un, ut, u9_Clash⟩⟩
  S_NoLayers_PlyError := uS_NoLayers_PlyError
  S_NoLayers_NoLayers := uS_NoLayers_NoLayers
  S_NoLayers_ValueError := uS_NoLayers_ValueError
  S_NoLayers_Unlike := uS_NoLayers_Unlike
  S_NoLayers_NoTies := uS_NoLayers_NoTies
  S_NoLayers_NoText := uS_NoLayers_NoText
  S_NoLayers_NoPlaces := uS_NoLayers_NoPlaces
  S_NoLayers_NoPair := uS_NoLayers_NoPair
  S_NoLayers_NoNet := uS_NoLayers_NoNet
  S_NoLayers_Clash := uS_NoLayers_Clash
theorem all_mk {l : PySem.W.OpenLaw} {fa : Addr} (X : K.In h) (G : h.Ns mainGlobals mg) (hfa : mg "law" = some (.ref fa))
    {f0 : Addr} {od0 an0 : Option Addr} {sl0 : Array (Option Value)} {oc0 kV0 dc0 pm0 cd0 ct0 : Value}
        (a0 : PySem.W.nsIn K mainGlobals "is_whole" = some (some (.ref f0))) (l0 : K.lookup f0 = some ⟨oc0, od0, .func (PySem.W.fnOf "is_whole" "is_whole" (defArgs st_is_whole) (defBody st_is_whole) (defScope st_is_whole) .none kV0 dc0 pm0 an0 cd0 ct0), sl0⟩) (c0 : PySem.W.codeIn K cd0 "is_whole" = true) (k0 : PySem.W.keepIn K (.ref f0) = true)
    {f1 : Addr} {od1 an1 : Option Addr} {sl1 : Array (Option Value)} {oc1 kV1 dc1 pm1 cd1 ct1 : Value}
        (a1 : PySem.W.nsIn K mainGlobals "joined" = some (some (.ref f1))) (l1 : K.lookup f1 = some ⟨oc1, od1, .func (PySem.W.fnOf "joined" "joined" (defArgs st_joined) (defBody st_joined) (defScope st_joined) .none kV1 dc1 pm1 an1 cd1 ct1), sl1⟩) (c1 : PySem.W.codeIn K cd1 "joined" = true) (k1 : PySem.W.keepIn K (.ref f1) = true)
    {f2 : Addr} {od2 an2 : Option Addr} {sl2 : Array (Option Value)} {oc2 kV2 dc2 pm2 cd2 ct2 : Value}
        (a2 : PySem.W.nsIn K mainGlobals "is_depth" = some (some (.ref f2))) (l2 : K.lookup f2 = some ⟨oc2, od2, .func (PySem.W.fnOf "is_depth" "is_depth" (defArgs st_is_depth) (defBody st_is_depth) (defScope st_is_depth) .none kV2 dc2 pm2 an2 cd2 ct2), sl2⟩) (c2 : PySem.W.codeIn K cd2 "is_depth" = true) (k2 : PySem.W.keepIn K (.ref f2) = true)
    {f3 : Addr} {od3 an3 : Option Addr} {sl3 : Array (Option Value)} {oc3 kV3 dc3 pm3 cd3 ct3 : Value}
        (a3 : PySem.W.nsIn K mainGlobals "look_at_layers" = some (some (.ref f3))) (l3 : K.lookup f3 = some ⟨oc3, od3, .func (PySem.W.fnOf "look_at_layers" "look_at_layers" (defArgs st_look_at_layers) (defBody st_look_at_layers) (defScope st_look_at_layers) .none kV3 dc3 pm3 an3 cd3 ct3), sl3⟩) (c3 : PySem.W.codeIn K cd3 "look_at_layers" = true) (k3 : PySem.W.keepIn K (.ref f3) = true)
    {f4 : Addr} {od4 an4 : Option Addr} {sl4 : Array (Option Value)} {oc4 kV4 dc4 pm4 cd4 ct4 : Value}
        (a4 : PySem.W.nsIn K mainGlobals "layer_for" = some (some (.ref f4))) (l4 : K.lookup f4 = some ⟨oc4, od4, .func (PySem.W.fnOf "layer_for" "layer_for" (defArgs st_layer_for) (defBody st_layer_for) (defScope st_layer_for) .none kV4 dc4 pm4 an4 cd4 ct4), sl4⟩) (c4 : PySem.W.codeIn K cd4 "layer_for" = true) (k4 : PySem.W.keepIn K (.ref f4) = true)
    {f5 : Addr} {od5 an5 : Option Addr} {sl5 : Array (Option Value)} {oc5 kV5 dc5 pm5 cd5 ct5 : Value}
        (a5 : PySem.W.nsIn K mainGlobals "layered" = some (some (.ref f5))) (l5 : K.lookup f5 = some ⟨oc5, od5, .func (PySem.W.fnOf "layered" "layered" (defArgs st_layered) (defBody st_layered) (defScope st_layered) .none kV5 dc5 pm5 an5 cd5 ct5), sl5⟩) (c5 : PySem.W.codeIn K cd5 "layered" = true) (k5 : PySem.W.keepIn K (.ref f5) = true)
    {f6 : Addr} {od6 an6 : Option Addr} {sl6 : Array (Option Value)} {oc6 kV6 dc6 pm6 cd6 ct6 : Value}
        (a6 : PySem.W.nsIn K mainGlobals "layers_right" = some (some (.ref f6))) (l6 : K.lookup f6 = some ⟨oc6, od6, .func (PySem.W.fnOf "layers_right" "layers_right" (defArgs st_layers_right) (defBody st_layers_right) (defScope st_layers_right) .none kV6 dc6 pm6 an6 cd6 ct6), sl6⟩) (c6 : PySem.W.codeIn K cd6 "layers_right" = true) (k6 : PySem.W.keepIn K (.ref f6) = true)
    {f7 : Addr} {od7 an7 : Option Addr} {sl7 : Array (Option Value)} {oc7 kV7 dc7 pm7 cd7 ct7 : Value}
        (a7 : PySem.W.nsIn K mainGlobals "way_in" = some (some (.ref f7))) (l7 : K.lookup f7 = some ⟨oc7, od7, .func (PySem.W.fnOf "way_in" "way_in" (defArgs st_way_in) (defBody st_way_in) (defScope st_way_in) .none kV7 dc7 pm7 an7 cd7 ct7), sl7⟩) (c7 : PySem.W.codeIn K cd7 "way_in" = true) (k7 : PySem.W.keepIn K (.ref f7) = true)
    {f8 : Addr} {od8 an8 : Option Addr} {sl8 : Array (Option Value)} {oc8 kV8 dc8 pm8 cd8 ct8 : Value}
        (a8 : PySem.W.nsIn K mainGlobals "strands" = some (some (.ref f8))) (l8 : K.lookup f8 = some ⟨oc8, od8, .func (PySem.W.fnOf "strands" "strands" (defArgs st_strands) (defBody st_strands) (defScope st_strands) .none kV8 dc8 pm8 an8 cd8 ct8), sl8⟩) (c8 : PySem.W.codeIn K cd8 "strands" = true) (k8 : PySem.W.keepIn K (.ref f8) = true)
    {f9 : Addr} {od9 an9 : Option Addr} {sl9 : Array (Option Value)} {oc9 kV9 dc9 pm9 cd9 ct9 : Value}
        (a9 : PySem.W.nsIn K mainGlobals "_law_mixed" = some (some (.ref f9))) (l9 : K.lookup f9 = some ⟨oc9, od9, .func (PySem.W.fnOf "_law_mixed" "_law_mixed" (defArgs st_l_mixed) (defBody st_l_mixed) (defScope st_l_mixed) .none kV9 dc9 pm9 an9 cd9 ct9), sl9⟩) (c9 : PySem.W.codeIn K cd9 "_law_mixed" = true) (k9 : PySem.W.keepIn K (.ref f9) = true)
    {f10 : Addr} {od10 an10 : Option Addr} {sl10 : Array (Option Value)} {oc10 kV10 dc10 pm10 cd10 ct10 : Value}
        (a10 : PySem.W.nsIn K mainGlobals "_law_numbers" = some (some (.ref f10))) (l10 : K.lookup f10 = some ⟨oc10, od10, .func (PySem.W.fnOf "_law_numbers" "_law_numbers" (defArgs st_l_numbers) (defBody st_l_numbers) (defScope st_l_numbers) .none kV10 dc10 pm10 an10 cd10 ct10), sl10⟩) (c10 : PySem.W.codeIn K cd10 "_law_numbers" = true) (k10 : PySem.W.keepIn K (.ref f10) = true)
    {f11 : Addr} {od11 an11 : Option Addr} {sl11 : Array (Option Value)} {oc11 kV11 dc11 pm11 cd11 ct11 : Value}
        (a11 : PySem.W.nsIn K mainGlobals "_law_ends" = some (some (.ref f11))) (l11 : K.lookup f11 = some ⟨oc11, od11, .func (PySem.W.fnOf "_law_ends" "_law_ends" (defArgs st_l_ends) (defBody st_l_ends) (defScope st_l_ends) .none kV11 dc11 pm11 an11 cd11 ct11), sl11⟩) (c11 : PySem.W.codeIn K cd11 "_law_ends" = true) (k11 : PySem.W.keepIn K (.ref f11) = true)
    {f12 : Addr} {od12 an12 : Option Addr} {sl12 : Array (Option Value)} {oc12 kV12 dc12 pm12 cd12 ct12 : Value}
        (a12 : PySem.W.nsIn K mainGlobals "_law_record" = some (some (.ref f12))) (l12 : K.lookup f12 = some ⟨oc12, od12, .func (PySem.W.fnOf "_law_record" "_law_record" (defArgs st_l_record) (defBody st_l_record) (defScope st_l_record) .none kV12 dc12 pm12 an12 cd12 ct12), sl12⟩) (c12 : PySem.W.codeIn K cd12 "_law_record" = true) (k12 : PySem.W.keepIn K (.ref f12) = true)
    {f13 : Addr} {od13 an13 : Option Addr} {sl13 : Array (Option Value)} {oc13 kV13 dc13 pm13 cd13 ct13 : Value}
        (a13 : PySem.W.nsIn K mainGlobals "_law_thing" = some (some (.ref f13))) (l13 : K.lookup f13 = some ⟨oc13, od13, .func (PySem.W.fnOf "_law_thing" "_law_thing" (defArgs st_l_thing) (defBody st_l_thing) (defScope st_l_thing) .none kV13 dc13 pm13 an13 cd13 ct13), sl13⟩) (c13 : PySem.W.codeIn K cd13 "_law_thing" = true) (k13 : PySem.W.keepIn K (.ref f13) = true)
    {f14 : Addr} {od14 an14 : Option Addr} {sl14 : Array (Option Value)} {oc14 kV14 dc14 pm14 cd14 ct14 : Value}
        (a14 : PySem.W.nsIn K mainGlobals "_law_refused" = some (some (.ref f14))) (l14 : K.lookup f14 = some ⟨oc14, od14, .func (PySem.W.fnOf "_law_refused" "_law_refused" (defArgs st_l_refused) (defBody st_l_refused) (defScope st_l_refused) .none kV14 dc14 pm14 an14 cd14 ct14), sl14⟩) (c14 : PySem.W.codeIn K cd14 "_law_refused" = true) (k14 : PySem.W.keepIn K (.ref f14) = true)
    {f15 : Addr} {od15 an15 : Option Addr} {sl15 : Array (Option Value)} {oc15 kV15 dc15 pm15 cd15 ct15 : Value}
        (a15 : PySem.W.nsIn K mainGlobals "law" = some (some (.ref f15))) (l15 : K.lookup f15 = some ⟨oc15, od15, .func (PySem.W.fnOf "law" "law" (defArgs st_law) (defBody st_law) (defScope st_law) .none kV15 dc15 pm15 an15 cd15 ct15), sl15⟩) (c15 : PySem.W.codeIn K cd15 "law" = true) (k15 : PySem.W.keepIn K (.ref f15) = true)
        (z_isinstance : PySem.W.nsIn K mainGlobals "isinstance" = some none)
        (z_int : PySem.W.nsIn K mainGlobals "int" = some none)
        (z_bool : PySem.W.nsIn K mainGlobals "bool" = some none)
        (z_min : PySem.W.nsIn K mainGlobals "min" = some none)
        (z_max : PySem.W.nsIn K mainGlobals "max" = some none)
        (z_enumerate : PySem.W.nsIn K mainGlobals "enumerate" = some none)
        (z_range : PySem.W.nsIn K mainGlobals "range" = some none)
        (z_list : PySem.W.nsIn K mainGlobals "list" = some none)
        (z_reversed : PySem.W.nsIn K mainGlobals "reversed" = some none)
        (z_len : PySem.W.nsIn K mainGlobals "len" = some none)
        (z_zip : PySem.W.nsIn K mainGlobals "zip" = some none)
        (z_ValueError : PySem.W.nsIn K mainGlobals "ValueError" = some none)
        {tk_MOST_LAYERS : Tok} (y_MOST_LAYERS : PySem.W.nsIn K mainGlobals "MOST_LAYERS" = some (some (.int (6) tk_MOST_LAYERS)))
        {C_NoLayers : Addr} (u1_NoLayers : PySem.W.nsIn K mainGlobals "NoLayers" = some (some (.ref C_NoLayers))) (u2_NoLayers : PySem.W.keepIn K (.ref C_NoLayers) = true) (u3_NoLayers : PySem.W.typeIn K (.ref C_NoLayers) = some (.type "type"))
        (u4_NoLayers : PySem.W.findIn K (.ref C_NoLayers) "__getattribute__" = some (some (.builtin "BaseException.__getattribute__"))) (u5_NoLayers : PySem.W.findIn K (.ref C_NoLayers) "__getattr__" = some none) (u6_NoLayers : PySem.W.subIn K (.ref C_NoLayers) (.type "BaseException") = some true) (u7_NoLayers : PySem.W.hasDictIn K C_NoLayers = true) (u8_NoLayers : PySem.W.findIn K (.ref C_NoLayers) "__class__" = some (some (.builtin "object.__class__"))) (u9_NoLayers : PySem.W.mroIn K C_NoLayers (.type "object") = some true)
        (uQ_NoLayers : PySem.W.excIn K C_NoLayers veB "ValueError.__new__" = true)
        {C_PlyError : Addr} (u1_PlyError : PySem.W.nsIn K mainGlobals "PlyError" = some (some (.ref C_PlyError))) (u2_PlyError : PySem.W.keepIn K (.ref C_PlyError) = true) (u3_PlyError : PySem.W.typeIn K (.ref C_PlyError) = some (.type "type"))
        (u4_PlyError : PySem.W.findIn K (.ref C_PlyError) "__getattribute__" = some (some (.builtin "BaseException.__getattribute__"))) (u5_PlyError : PySem.W.findIn K (.ref C_PlyError) "__getattr__" = some none) (u6_PlyError : PySem.W.subIn K (.ref C_PlyError) (.type "BaseException") = some true) (u7_PlyError : PySem.W.hasDictIn K C_PlyError = true) (u8_PlyError : PySem.W.findIn K (.ref C_PlyError) "__class__" = some (some (.builtin "object.__class__"))) (u9_PlyError : PySem.W.mroIn K C_PlyError (.type "object") = some true)
        {C_Unlike : Addr} (u1_Unlike : PySem.W.nsIn K mainGlobals "Unlike" = some (some (.ref C_Unlike))) (u2_Unlike : PySem.W.keepIn K (.ref C_Unlike) = true) (u3_Unlike : PySem.W.typeIn K (.ref C_Unlike) = some (.type "type"))
        (u4_Unlike : PySem.W.findIn K (.ref C_Unlike) "__getattribute__" = some (some (.builtin "BaseException.__getattribute__"))) (u5_Unlike : PySem.W.findIn K (.ref C_Unlike) "__getattr__" = some none) (u6_Unlike : PySem.W.subIn K (.ref C_Unlike) (.type "BaseException") = some true) (u7_Unlike : PySem.W.hasDictIn K C_Unlike = true) (u8_Unlike : PySem.W.findIn K (.ref C_Unlike) "__class__" = some (some (.builtin "object.__class__"))) (u9_Unlike : PySem.W.mroIn K C_Unlike (.type "object") = some true)
        {C_NoTies : Addr} (u1_NoTies : PySem.W.nsIn K mainGlobals "NoTies" = some (some (.ref C_NoTies))) (u2_NoTies : PySem.W.keepIn K (.ref C_NoTies) = true) (u3_NoTies : PySem.W.typeIn K (.ref C_NoTies) = some (.type "type"))
        (u4_NoTies : PySem.W.findIn K (.ref C_NoTies) "__getattribute__" = some (some (.builtin "BaseException.__getattribute__"))) (u5_NoTies : PySem.W.findIn K (.ref C_NoTies) "__getattr__" = some none) (u6_NoTies : PySem.W.subIn K (.ref C_NoTies) (.type "BaseException") = some true) (u7_NoTies : PySem.W.hasDictIn K C_NoTies = true) (u8_NoTies : PySem.W.findIn K (.ref C_NoTies) "__class__" = some (some (.builtin "object.__class__"))) (u9_NoTies : PySem.W.mroIn K C_NoTies (.type "object") = some true)
        {C_NoText : Addr} (u1_NoText : PySem.W.nsIn K mainGlobals "NoText" = some (some (.ref C_NoText))) (u2_NoText : PySem.W.keepIn K (.ref C_NoText) = true) (u3_NoText : PySem.W.typeIn K (.ref C_NoText) = some (.type "type"))
        (u4_NoText : PySem.W.findIn K (.ref C_NoText) "__getattribute__" = some (some (.builtin "BaseException.__getattribute__"))) (u5_NoText : PySem.W.findIn K (.ref C_NoText) "__getattr__" = some none) (u6_NoText : PySem.W.subIn K (.ref C_NoText) (.type "BaseException") = some true) (u7_NoText : PySem.W.hasDictIn K C_NoText = true) (u8_NoText : PySem.W.findIn K (.ref C_NoText) "__class__" = some (some (.builtin "object.__class__"))) (u9_NoText : PySem.W.mroIn K C_NoText (.type "object") = some true)
        {C_NoPlaces : Addr} (u1_NoPlaces : PySem.W.nsIn K mainGlobals "NoPlaces" = some (some (.ref C_NoPlaces))) (u2_NoPlaces : PySem.W.keepIn K (.ref C_NoPlaces) = true) (u3_NoPlaces : PySem.W.typeIn K (.ref C_NoPlaces) = some (.type "type"))
        (u4_NoPlaces : PySem.W.findIn K (.ref C_NoPlaces) "__getattribute__" = some (some (.builtin "BaseException.__getattribute__"))) (u5_NoPlaces : PySem.W.findIn K (.ref C_NoPlaces) "__getattr__" = some none) (u6_NoPlaces : PySem.W.subIn K (.ref C_NoPlaces) (.type "BaseException") = some true) (u7_NoPlaces : PySem.W.hasDictIn K C_NoPlaces = true) (u8_NoPlaces : PySem.W.findIn K (.ref C_NoPlaces) "__class__" = some (some (.builtin "object.__class__"))) (u9_NoPlaces : PySem.W.mroIn K C_NoPlaces (.type "object") = some true)
        {C_NoPair : Addr} (u1_NoPair : PySem.W.nsIn K mainGlobals "NoPair" = some (some (.ref C_NoPair))) (u2_NoPair : PySem.W.keepIn K (.ref C_NoPair) = true) (u3_NoPair : PySem.W.typeIn K (.ref C_NoPair) = some (.type "type"))
        (u4_NoPair : PySem.W.findIn K (.ref C_NoPair) "__getattribute__" = some (some (.builtin "BaseException.__getattribute__"))) (u5_NoPair : PySem.W.findIn K (.ref C_NoPair) "__getattr__" = some none) (u6_NoPair : PySem.W.subIn K (.ref C_NoPair) (.type "BaseException") = some true) (u7_NoPair : PySem.W.hasDictIn K C_NoPair = true) (u8_NoPair : PySem.W.findIn K (.ref C_NoPair) "__class__" = some (some (.builtin "object.__class__"))) (u9_NoPair : PySem.W.mroIn K C_NoPair (.type "object") = some true)
        {C_NoNet : Addr} (u1_NoNet : PySem.W.nsIn K mainGlobals "NoNet" = some (some (.ref C_NoNet))) (u2_NoNet : PySem.W.keepIn K (.ref C_NoNet) = true) (u3_NoNet : PySem.W.typeIn K (.ref C_NoNet) = some (.type "type"))
        (u4_NoNet : PySem.W.findIn K (.ref C_NoNet) "__getattribute__" = some (some (.builtin "BaseException.__getattribute__"))) (u5_NoNet : PySem.W.findIn K (.ref C_NoNet) "__getattr__" = some none) (u6_NoNet : PySem.W.subIn K (.ref C_NoNet) (.type "BaseException") = some true) (u7_NoNet : PySem.W.hasDictIn K C_NoNet = true) (u8_NoNet : PySem.W.findIn K (.ref C_NoNet) "__class__" = some (some (.builtin "object.__class__"))) (u9_NoNet : PySem.W.mroIn K C_NoNet (.type "object") = some true)
        {C_Clash : Addr} (u1_Clash : PySem.W.nsIn K mainGlobals "Clash" = some (some (.ref C_Clash))) (u2_Clash : PySem.W.keepIn K (.ref C_Clash) = true) (u3_Clash : PySem.W.typeIn K (.ref C_Clash) = some (.type "type"))
        (u4_Clash : PySem.W.findIn K (.ref C_Clash) "__getattribute__" = some (some (.builtin "BaseException.__getattribute__"))) (u5_Clash : PySem.W.findIn K (.ref C_Clash) "__getattr__" = some none) (u6_Clash : PySem.W.subIn K (.ref C_Clash) (.type "BaseException") = some true) (u7_Clash : PySem.W.hasDictIn K C_Clash = true) (u8_Clash : PySem.W.findIn K (.ref C_Clash) "__class__" = some (some (.builtin "object.__class__"))) (u9_Clash : PySem.W.mroIn K C_Clash (.type "object") = some true)
        (un : PySem.W.specialIn K (.builtin "object.__class__") "__get__" = some (some (.builtin "getset_descriptor.__get__"))) (ut : PySem.W.takesIn K (.builtin "object.__class__") = some true)
        (uS_NoLayers_PlyError : PySem.W.subIn K (.ref C_NoLayers) (.ref C_PlyError) = some true)
        (uS_NoLayers_NoLayers : PySem.W.subIn K (.ref C_NoLayers) (.ref C_NoLayers) = some true)
        (uS_NoLayers_ValueError : PySem.W.subIn K (.ref C_NoLayers) (.type "ValueError") = some true)
        (uS_NoLayers_Unlike : PySem.W.subIn K (.ref C_NoLayers) (.ref C_Unlike) = some false)
        (uS_NoLayers_NoTies : PySem.W.subIn K (.ref C_NoLayers) (.ref C_NoTies) = some false)
        (uS_NoLayers_NoText : PySem.W.subIn K (.ref C_NoLayers) (.ref C_NoText) = some false)
        (uS_NoLayers_NoPlaces : PySem.W.subIn K (.ref C_NoLayers) (.ref C_NoPlaces) = some false)
        (uS_NoLayers_NoPair : PySem.W.subIn K (.ref C_NoLayers) (.ref C_NoPair) = some false)
        (uS_NoLayers_NoNet : PySem.W.subIn K (.ref C_NoLayers) (.ref C_NoNet) = some false)
        (uS_NoLayers_Clash : PySem.W.subIn K (.ref C_NoLayers) (.ref C_Clash) = some false) :
    ∃ fd : FuncData, (∀ (s : Shared) (v : Value), BindsTo s fd ⟨[v], []⟩ [("script", v)]) ∧ ∀ base : Heap, K.In base → base.Ns mainGlobals mg → FnOk l.prog w K mg base CX0 7 fa fd ["script"] (spG K mg 1 f_law) := by
  have e := hfa.symm.trans (PySem.W.mg_of X G a15)
  cases e
  exact ⟨_, fun s v => .of_eq rfl, fun base _ _ => ok_law (mkTx X G a0 l0 c0 k0 a1 l1 c1 k1 a2 l2 c2 k2 a3 l3 c3 k3 a4 l4 c4 k4 a5 l5 c5 k5 a6 l6 c6 k6 a7 l7 c7 k7 a8 l8 c8 k8 a9 l9 c9 k9 a10 l10 c10 k10 a11 l11 c11 k11 a12 l12 c12 k12 a13 l13 c13 k13 a14 l14 c14 k14 a15 l15 c15 k15 z_isinstance z_int z_bool z_min z_max z_enumerate z_range z_list z_reversed z_len z_zip z_ValueError y_MOST_LAYERS u1_NoLayers u2_NoLayers u3_NoLayers u4_NoLayers u5_NoLayers u6_NoLayers u7_NoLayers u8_NoLayers u9_NoLayers uQ_NoLayers u1_PlyError u2_PlyError u3_PlyError u4_PlyError u5_PlyError u6_PlyError u7_PlyError u8_PlyError u9_PlyError u1_Unlike u2_Unlike u3_Unlike u4_Unlike u5_Unlike u6_Unlike u7_Unlike u8_Unlike u9_Unlike u1_NoTies u2_NoTies u3_NoTies u4_NoTies u5_NoTies u6_NoTies u7_NoTies u8_NoTies u9_NoTies u1_NoText u2_NoText u3_NoText u4_NoText u5_NoText u6_NoText u7_NoText u8_NoText u9_NoText u1_NoPlaces u2_NoPlaces u3_NoPlaces u4_NoPlaces u5_NoPlaces u6_NoPlaces u7_NoPlaces u8_NoPlaces u9_NoPlaces u1_NoPair u2_NoPair u3_NoPair u4_NoPair u5_NoPair u6_NoPair u7_NoPair u8_NoPair u9_NoPair u1_NoNet u2_NoNet u3_NoNet u4_NoNet u5_NoNet u6_NoNet u7_NoNet u8_NoNet u9_NoNet u1_Clash u2_Clash u3_Clash u4_Clash u5_Clash u6_Clash u7_Clash u8_Clash u9_Clash un ut uS_NoLayers_PlyError uS_NoLayers_NoLayers uS_NoLayers_ValueError uS_NoLayers_Unlike uS_NoLayers_NoTies uS_NoLayers_NoText uS_NoLayers_NoPlaces uS_NoLayers_NoPair uS_NoLayers_NoNet uS_NoLayers_Clash)⟩
end
end K13
end T_K13

section T_K13R
set_option linter.all false
set_option maxRecDepth 100000
set_option maxHeartbeats 4000000
namespace K13
open PySem Sim FamA FamL Lay

theorem ix3_0 (t : T3) : hIx (enc3 t) (.int 0) = .ok (.int t.1) := rfl
theorem ix3_1 (t : T3) : hIx (enc3 t) (.int 1) = .ok (.int t.2.1) := rfl
theorem ix3_2 (t : T3) : hIx (enc3 t) (.int 2) = .ok (.int t.2.2) := rfl
theorem le_look : ∀ ds, OLe (FamL.f_look_at_layers ds) (K13.f_look_at_layers ds) := ole_N (gle_if gle_refl gle_bad gle_refl)
theorem le_layered : ∀ ds, OLe (FamL.f_layered ds) (K13.f_layered ds) := ole_L (gle_seq (gle_drop (gle_callX le_look gle_refl)) gle_refl)
def encZ (p : T3 × Int) : Dt := .tuple [enc3 p.1, .int p.2]
theorem lr_loop {n : Int} {k : Nat} (n1 : 1 ≤ n) (n10 : n ≤ 10) (k6 : k ≤ 6) (R NS x5 : Dt) : ∀ (ps : List (T3 × Int)) (s : List T3) (rows : List (List Int)) (x6 x7 : Dt), RowsOk n k rows s → InN n (ps.map (·.1)) →
    (lay k ((ps.map (·.1)).reverse ++ s) = (ps.map (·.2)).reverse ++ lay k s ∧ ∃ ρ', forE (tgT (tgCons (tgN 6) (tgCons (tgN 7) (tgNil)))) g_layers_right_L1 (ps.map encZ) [.int n, R, .int (k : Nat), NS, .list (rows.map encI), x5, x6, x7] = .ok (.nx ρ')) ∨
    (¬ lay k ((ps.map (·.1)).reverse ++ s) = (ps.map (·.2)).reverse ++ lay k s ∧ forE (tgT (tgCons (tgN 6) (tgCons (tgN 7) (tgNil)))) g_layers_right_L1 (ps.map encZ) [.int n, R, .int (k : Nat), NS, .list (rows.map encI), x5, x6, x7] = .ok (.rt (.bool false)))
  | [], s, rows, x6, x7, hR, hI => .inl ⟨rfl, _, rfl⟩
  | (t, x) :: ps, s, rows, x6, x7, hR, hI => by
    obtain ⟨⟨a0, a1⟩, b0, b1⟩ := hI t (by simp)
    have hI' : InN n (ps.map (·.1)) := fun u hu => hI u (by rw [List.map_cons]; exact List.mem_cons_of_mem _ hu)
    have hm : ∀ ms ∈ rows, ms.length = n.toNat := fun ms h => by
      obtain ⟨j, hj, e⟩ := List.getElem_of_mem h
      rw [← e]
      exact (hR.mkr j hj).len
    have e4 := layer_for_ok (rows := rows) a0 (by omega : t.2.1.toNat < n.toNat) b0 (by omega : t.2.2.toNat < n.toNat) hm
    have e5 := hR.num a0 a1 b0 b1
    rw [e5] at e4
    obtain ⟨c0, c1⟩ := num_range k s (lay k s) t.2.1 t.2.2
    have etg : tgT (tgCons (tgN 6) (tgCons (tgN 7) (tgNil))) (encZ (t, x)) [.int n, R, .int (k : Nat), NS, .list (rows.map encI), x5, x6, x7] = .ok [.int n, R, .int (k : Nat), NS, .list (rows.map encI), x5, enc3 t, .int x] := rfl
    have ecall : gCallN 3 f_layer_for (gCons (gVar 4) (gCons (gOp hIx (gVar 6) (gC (.int (1)))) (gCons (gOp hIx (gVar 6) (gC (.int (2)))) (gNil)))) [.int n, R, .int (k : Nat), NS, .list (rows.map encI), x5, enc3 t, .int x] = .ok (.int (num k s (lay k s) t.2.1 t.2.2)) := callN_ok (ds := [.list (rows.map encI), .int t.2.1, .int t.2.2]) rfl rfl e4
    have hass : ∀ y : List T3, y ++ [t] ++ s = y ++ t :: s := fun y => by rw [List.append_assoc]; rfl
    rw [List.map_cons, List.map_cons, List.map_cons, List.reverse_cons, List.reverse_cons, hass]
    by_cases c : x = num k s (lay k s) t.2.1 t.2.2
    · -- the number is right
      have hstep : ∃ rows', RowsOk n k rows' (t :: s) ∧ g_layers_right_L1 [.int n, R, .int (k : Nat), NS, .list (rows.map encI), x5, enc3 t, .int x] = .ok (.nx [.int n, R, .int (k : Nat), NS, .list (rows'.map encI), x5, enc3 t, .int x]) := by
        have hne : gTest (gOp hNe (gVar 7) (gCallN 3 f_layer_for (gCons (gVar 4) (gCons (gOp hIx (gVar 6) (gC (.int (1)))) (gCons (gOp hIx (gVar 6) (gC (.int (2)))) (gNil)))))) [.int n, R, .int (k : Nat), NS, .list (rows.map encI), x5, enc3 t, .int x] = .ok false := by
          have e : (x == num k s (lay k s) t.2.1 t.2.2) = true := by simp [c]
          simp only [bnd_ok, gVar_def, gC_def, gOp_def, gUn_def, gNil_def, gCons_def, gIf_def, gTest_def, gNot_def, gAnd_def, gOr_def, gAndV_def, gOrV_def, gNotV_def, gCB_def, asB_b, hAdd_i, hSub_i, hLt_i, hLe_i, hGt_i, hGe_i, hMul_r, hMul_l, hMod_i, hDiv_s, hBand_i, hShr_i, hPow_10_18, hPow_10_27, hPow_10_28, hPow_10_29, hPow_10_30, hEq_i, hNe_i, hLen_l, hLen_t, hMin2_i, hMax2_i, hMin3_i, hInt1_b, hInt1_i, hBits_i, hListOf_l, hListOf_t, hTupOf_l, hTupOf_t, gSeqS_def, gSet_def, gRet_def, gIfS_def, gNext_def, gTup_def, gLst_def, List.getElem?_cons_zero, List.getElem?_cons_succ, List.set_cons_zero, List.set_cons_succ, List.length_cons, List.length_nil, Nat.zero_add, Nat.reduceAdd, Nat.reduceLeDiff, Nat.reduceSub, Nat.reduceMul, if_true, if_false, Bool.false_eq_true, List.replicate_succ, List.replicate_zero, List.cons_append, List.nil_append, tgN, tgT, tgCons, tgNil, Int.reducePow, Int.reduceAdd, Int.reduceSub, Int.reduceMul, decide_true, decide_false, Bool.not_true, Bool.not_false, gChain_def, hIsa_int, hIsa_intb, hIsa_list, hIsa_tuple, gDrop_def, ecall, e]
        by_cases cz : num k s (lay k s) t.2.1 t.2.2 = 0
        · refine ⟨rows, hR.stay cz, ?_⟩
          unfold g_layers_right_L1
          refine seq_step ((if_f hne).trans rfl) ?_
          have e : decide ((0 : Int) < x) = false := by rw [decide_eq_false_iff_not]; omega
          exact (if_f (by simp only [bnd_ok, gVar_def, gC_def, gOp_def, gUn_def, gNil_def, gCons_def, gIf_def, gTest_def, gNot_def, gAnd_def, gOr_def, gAndV_def, gOrV_def, gNotV_def, gCB_def, asB_b, hAdd_i, hSub_i, hLt_i, hLe_i, hGt_i, hGe_i, hMul_r, hMul_l, hMod_i, hDiv_s, hBand_i, hShr_i, hPow_10_18, hPow_10_27, hPow_10_28, hPow_10_29, hPow_10_30, hEq_i, hNe_i, hLen_l, hLen_t, hMin2_i, hMax2_i, hMin3_i, hInt1_b, hInt1_i, hBits_i, hListOf_l, hListOf_t, hTupOf_l, hTupOf_t, gSeqS_def, gSet_def, gRet_def, gIfS_def, gNext_def, gTup_def, gLst_def, List.getElem?_cons_zero, List.getElem?_cons_succ, List.set_cons_zero, List.set_cons_succ, List.length_cons, List.length_nil, Nat.zero_add, Nat.reduceAdd, Nat.reduceLeDiff, Nat.reduceSub, Nat.reduceMul, if_true, if_false, Bool.false_eq_true, List.replicate_succ, List.replicate_zero, List.cons_append, List.nil_append, tgN, tgT, tgCons, tgNil, Int.reducePow, Int.reduceAdd, Int.reduceSub, Int.reduceMul, decide_true, decide_false, Bool.not_true, Bool.not_false, gChain_def, hIsa_int, hIsa_intb, hIsa_list, hIsa_tuple, gDrop_def, e])).trans rfl
        · obtain ⟨j, ej⟩ : ∃ j : Nat, num k s (lay k s) t.2.1 t.2.2 = (j : Int) + 1 := ⟨(num k s (lay k s) t.2.1 t.2.2 - 1).toNat, by omega⟩
          have hj : j < rows.length := by rw [hR.len]; omega
          have lj := (hR.mkr j hj).len
          obtain ⟨p, q, hj1, hj2⟩ := joined_ok (ms := rows[j]) a0 (by omega : t.2.1.toNat < rows[j].length) b0 (by omega) (by omega)
          refine ⟨_, hR.put a0 a1 b0 b1 hj ej hj2, ?_⟩
          unfold g_layers_right_L1
          refine seq_step ((if_f hne).trans rfl) ?_
          have e : decide ((0 : Int) < x) = true := by rw [decide_eq_true_eq]; omega
          rw [if_t (by simp only [bnd_ok, gVar_def, gC_def, gOp_def, gUn_def, gNil_def, gCons_def, gIf_def, gTest_def, gNot_def, gAnd_def, gOr_def, gAndV_def, gOrV_def, gNotV_def, gCB_def, asB_b, hAdd_i, hSub_i, hLt_i, hLe_i, hGt_i, hGe_i, hMul_r, hMul_l, hMod_i, hDiv_s, hBand_i, hShr_i, hPow_10_18, hPow_10_27, hPow_10_28, hPow_10_29, hPow_10_30, hEq_i, hNe_i, hLen_l, hLen_t, hMin2_i, hMax2_i, hMin3_i, hInt1_b, hInt1_i, hBits_i, hListOf_l, hListOf_t, hTupOf_l, hTupOf_t, gSeqS_def, gSet_def, gRet_def, gIfS_def, gNext_def, gTup_def, gLst_def, List.getElem?_cons_zero, List.getElem?_cons_succ, List.set_cons_zero, List.set_cons_succ, List.length_cons, List.length_nil, Nat.zero_add, Nat.reduceAdd, Nat.reduceLeDiff, Nat.reduceSub, Nat.reduceMul, if_true, if_false, Bool.false_eq_true, List.replicate_succ, List.replicate_zero, List.cons_append, List.nil_append, tgN, tgT, tgCons, tgNil, Int.reducePow, Int.reduceAdd, Int.reduceSub, Int.reduceMul, decide_true, decide_false, Bool.not_true, Bool.not_false, gChain_def, hIsa_int, hIsa_intb, hIsa_list, hIsa_tuple, gDrop_def, e])]
          have es : x - 1 = (j : Int) := by omega
          have eix : hIx (.list (rows.map encI)) (.int (j : Int)) = .ok (encI rows[j]) := hIx_l (by rw [atI_map _ (by omega) (by omega)]; rfl)
          have ec2 : gCallN 3 f_joined (gCons (gOp hIx (gVar 4) (gOp hSub (gVar 7) (gC (.int (1))))) (gCons (gOp hIx (gVar 6) (gC (.int (1)))) (gCons (gOp hIx (gVar 6) (gC (.int (2)))) (gNil)))) [.int n, R, .int (k : Nat), NS, .list (rows.map encI), x5, enc3 t, .int x] = .ok (encI (rows[j].map fun m => if m = p then q else m)) :=
            callN_ok (ds := [encI rows[j], .int t.2.1, .int t.2.2]) (by simp only [bnd_ok, gVar_def, gC_def, gOp_def, gUn_def, gNil_def, gCons_def, gIf_def, gTest_def, gNot_def, gAnd_def, gOr_def, gAndV_def, gOrV_def, gNotV_def, gCB_def, asB_b, hAdd_i, hSub_i, hLt_i, hLe_i, hGt_i, hGe_i, hMul_r, hMul_l, hMod_i, hDiv_s, hBand_i, hShr_i, hPow_10_18, hPow_10_27, hPow_10_28, hPow_10_29, hPow_10_30, hEq_i, hNe_i, hLen_l, hLen_t, hMin2_i, hMax2_i, hMin3_i, hInt1_b, hInt1_i, hBits_i, hListOf_l, hListOf_t, hTupOf_l, hTupOf_t, gSeqS_def, gSet_def, gRet_def, gIfS_def, gNext_def, gTup_def, gLst_def, List.getElem?_cons_zero, List.getElem?_cons_succ, List.set_cons_zero, List.set_cons_succ, List.length_cons, List.length_nil, Nat.zero_add, Nat.reduceAdd, Nat.reduceLeDiff, Nat.reduceSub, Nat.reduceMul, if_true, if_false, Bool.false_eq_true, List.replicate_succ, List.replicate_zero, List.cons_append, List.nil_append, tgN, tgT, tgCons, tgNil, Int.reducePow, Int.reduceAdd, Int.reduceSub, Int.reduceMul, decide_true, decide_false, Bool.not_true, Bool.not_false, gChain_def, hIsa_int, hIsa_intb, hIsa_list, hIsa_tuple, gDrop_def, es, eix, ix3_1, ix3_2]) rfl hj1
          rw [setI_ok (ds := rows.map encI) (d := encI (rows[j].map fun m => if m = p then q else m)) (j := (j : Int)) ec2 rfl (by simp only [bnd_ok, gVar_def, gC_def, gOp_def, gUn_def, gNil_def, gCons_def, gIf_def, gTest_def, gNot_def, gAnd_def, gOr_def, gAndV_def, gOrV_def, gNotV_def, gCB_def, asB_b, hAdd_i, hSub_i, hLt_i, hLe_i, hGt_i, hGe_i, hMul_r, hMul_l, hMod_i, hDiv_s, hBand_i, hShr_i, hPow_10_18, hPow_10_27, hPow_10_28, hPow_10_29, hPow_10_30, hEq_i, hNe_i, hLen_l, hLen_t, hMin2_i, hMax2_i, hMin3_i, hInt1_b, hInt1_i, hBits_i, hListOf_l, hListOf_t, hTupOf_l, hTupOf_t, gSeqS_def, gSet_def, gRet_def, gIfS_def, gNext_def, gTup_def, gLst_def, List.getElem?_cons_zero, List.getElem?_cons_succ, List.set_cons_zero, List.set_cons_succ, List.length_cons, List.length_nil, Nat.zero_add, Nat.reduceAdd, Nat.reduceLeDiff, Nat.reduceSub, Nat.reduceMul, if_true, if_false, Bool.false_eq_true, List.replicate_succ, List.replicate_zero, List.cons_append, List.nil_append, tgN, tgT, tgCons, tgNil, Int.reducePow, Int.reduceAdd, Int.reduceSub, Int.reduceMul, decide_true, decide_false, Bool.not_true, Bool.not_false, gChain_def, hIsa_int, hIsa_intb, hIsa_list, hIsa_tuple, gDrop_def, es]) (by omega) (by rw [List.length_map]; omega)]
          rw [Int.toNat_natCast, set_map_enc]
          rfl
      obtain ⟨rows', hR', hb⟩ := hstep
      have hlay : lay k (t :: s) = x :: lay k s := by rw [lay_cons, ← c]
      have efor : forE (tgT (tgCons (tgN 6) (tgCons (tgN 7) (tgNil)))) g_layers_right_L1 (encZ (t, x) :: ps.map encZ) [.int n, R, .int (k : Nat), NS, .list (rows.map encI), x5, x6, x7]
          = forE (tgT (tgCons (tgN 6) (tgCons (tgN 7) (tgNil)))) g_layers_right_L1 (ps.map encZ) [.int n, R, .int (k : Nat), NS, .list (rows'.map encI), x5, enc3 t, .int x] := by
        conv => lhs; unfold forE
        rw [etg]
        simp only [bnd_ok, hb]
      have ih := lr_loop n1 n10 k6 R NS x5 ps (t :: s) rows' (enc3 t) (.int x) hR' hI'
      rw [hlay] at ih
      rw [efor, List.append_assoc]
      exact ih
    · refine .inr ⟨fun z => c ?_, ?_⟩
      · obtain ⟨w, e, l⟩ := lay_app k (t :: s) (ps.map (·.1)).reverse
        rw [e, lay_cons, List.append_assoc] at z
        have := (List.append_inj z (by rw [l, List.length_reverse, List.length_reverse, List.length_map, List.length_map])).2
        rw [List.singleton_append] at this
        injection this with h1 h2
        exact h1.symm
      · unfold forE
        have e : (x == num k s (lay k s) t.2.1 t.2.2) = false := by rw [beq_eq_false_iff_ne]; exact c
        have hb : g_layers_right_L1 [.int n, R, .int (k : Nat), NS, .list (rows.map encI), x5, enc3 t, .int x] = .ok (.rt (.bool false)) := by
          unfold g_layers_right_L1
          exact seq_rt (Eq.trans (if_t (by simp only [bnd_ok, gVar_def, gC_def, gOp_def, gUn_def, gNil_def, gCons_def, gIf_def, gTest_def, gNot_def, gAnd_def, gOr_def, gAndV_def, gOrV_def, gNotV_def, gCB_def, asB_b, hAdd_i, hSub_i, hLt_i, hLe_i, hGt_i, hGe_i, hMul_r, hMul_l, hMod_i, hDiv_s, hBand_i, hShr_i, hPow_10_18, hPow_10_27, hPow_10_28, hPow_10_29, hPow_10_30, hEq_i, hNe_i, hLen_l, hLen_t, hMin2_i, hMax2_i, hMin3_i, hInt1_b, hInt1_i, hBits_i, hListOf_l, hListOf_t, hTupOf_l, hTupOf_t, gSeqS_def, gSet_def, gRet_def, gIfS_def, gNext_def, gTup_def, gLst_def, List.getElem?_cons_zero, List.getElem?_cons_succ, List.set_cons_zero, List.set_cons_succ, List.length_cons, List.length_nil, Nat.zero_add, Nat.reduceAdd, Nat.reduceLeDiff, Nat.reduceSub, Nat.reduceMul, if_true, if_false, Bool.false_eq_true, List.replicate_succ, List.replicate_zero, List.cons_append, List.nil_append, tgN, tgT, tgCons, tgNil, Int.reducePow, Int.reduceAdd, Int.reduceSub, Int.reduceMul, decide_true, decide_false, Bool.not_true, Bool.not_false, gChain_def, hIsa_int, hIsa_intb, hIsa_list, hIsa_tuple, gDrop_def, ecall, e])) rfl)
        rw [etg]
        simp only [bnd_ok, hb]
theorem layers_right_ok {n : Int} {r : List T3} {ns : List Int} (hr : InN n r) (n1 : 1 ≤ n) (n10 : n ≤ 10) (hl : r.length ≤ 1000) (k : Nat) (k1 : 1 ≤ k) (k6 : k ≤ 6) :
    ∃ v : Bool, f_layers_right [.int n, .list (r.map enc3), .int (k : Nat), .list (ns.map .int)] = .ok (.bool v) ∧ (v = true ↔ ns = lay k r) := by
  have hlook := le_look _ _ (look_ok (k := k) (by omega) (by omega))
  have rg : ∀ x, gLsI (gRng1 (gCons (gVar 0) gNil)) [.int n, .list (r.map enc3), .int (k : Nat), .list (ns.map .int), .none, .int x, .none, .none] = .ok (encI (pl n)) := fun x => by
    rw [lsI_ok (ds := (pl n).map .int) (by rw [rng1_ok (show gCons (gVar 0) gNil _ = .ok [.int n] from rfl) (by omega) (by omega), rangeD_pl]) (by rw [List.length_map, pl_len]; omega)]
    rfl
  have hrows : gLc (gRng1 (gCons (gVar 2) (gNil))) (tgN 5) (gYes) (gLsI (gRng1 (gCons (gVar 0) gNil))) [.int n, .list (r.map enc3), .int (k : Nat), .list (ns.map .int), .none, .none, .none, .none] = .ok (.list ((List.replicate k (pl n)).map encI)) := by
    rw [gLc_map PyData.int (fun _ => true) (fun _ => encI (pl n)) (xs := pl k) (by rw [rng1_ok (show gCons (gVar 2) gNil _ = .ok [.int (k : Nat)] from rfl) (by omega) (by omega), rangeD_pl]) (by rw [pl_len]; omega) fun x _ => ⟨_, rfl, rfl, fun _ => rg x⟩]
    rw [List.filter_eq_self.mpr (fun _ _ => rfl), List.map_const', pl_len, List.map_replicate]
    rfl
  have hdrop : gDrop (gCallX 1 f_look_at_layers (gCons (gVar 2) (gNil))) [.int n, .list (r.map enc3), .int (k : Nat), .list (ns.map .int), .none, .none, .none, .none] = .ok (.nx [.int n, .list (r.map enc3), .int (k : Nat), .list (ns.map .int), .none, .none, .none, .none]) := by
    have hc : gCallX 1 f_look_at_layers (gCons (gVar 2) (gNil)) [.int n, .list (r.map enc3), .int (k : Nat), .list (ns.map .int), .none, .none, .none, .none] = .ok .none := callX_ok (ds := [.int (k : Nat)]) rfl rfl hlook
    rw [gDrop_def, hc]
    rfl
  by_cases hlen : ns.length = r.length
  · have e : ((ns.length : Int) == (r.length : Int)) = true := by rw [beq_iff_eq]; omega
    have m1 : ((r.reverse.zip ns.reverse).map (·.1)) = r.reverse := List.map_fst_zip (by rw [List.length_reverse, List.length_reverse]; omega)
    have m2 : ((r.reverse.zip ns.reverse).map (·.2)) = ns.reverse := List.map_snd_zip (by rw [List.length_reverse, List.length_reverse]; omega)
    have hz : ∀ ρ : List Dt, ρ[1]? = some (.list (r.map enc3)) → ρ[3]? = some (.list (ns.map .int)) → gZipR (gVar 1) (gVar 3) ρ = .ok ((r.reverse.zip ns.reverse).map encZ) := fun ρ h1 h3 => by
      rw [zipR_ok (es := r.map enc3) (fs := ns.map .int) (by rw [gVar_def, h1]) (by rw [gVar_def, h3]), ← List.map_reverse, ← List.map_reverse, zipD_map]
      rfl
    have hloop := lr_loop n1 n10 k6 (.list (r.map enc3)) (.list (ns.map .int)) .none (r.reverse.zip ns.reverse) [] (List.replicate k (pl n)) .none .none RowsOk.zero (by rw [m1]; exact fun t ht => hr t (List.mem_reverse.mp ht))
    rw [m1, m2, List.reverse_reverse, List.reverse_reverse, List.append_nil] at hloop
    have hnil : lay k ([] : List T3) = [] := rfl
    rw [hnil, List.append_nil] at hloop
    rcases hloop with ⟨hq, ρ', hf⟩ | ⟨hq, hf⟩
    · refine ⟨true, ?_, ⟨fun _ => hq.symm, fun _ => rfl⟩⟩
      refine fnNX_rt ?_
      show g_layers_right [.int n, .list (r.map enc3), .int (k : Nat), .list (ns.map .int), .none, .none, .none, .none] = _
      unfold g_layers_right
      refine seq_step hdrop ?_
      refine seq_step ((if_f (by simp only [bnd_ok, gVar_def, gC_def, gOp_def, gUn_def, gNil_def, gCons_def, gIf_def, gTest_def, gNot_def, gAnd_def, gOr_def, gAndV_def, gOrV_def, gNotV_def, gCB_def, asB_b, hAdd_i, hSub_i, hLt_i, hLe_i, hGt_i, hGe_i, hMul_r, hMul_l, hMod_i, hDiv_s, hBand_i, hShr_i, hPow_10_18, hPow_10_27, hPow_10_28, hPow_10_29, hPow_10_30, hEq_i, hNe_i, hLen_l, hLen_t, hMin2_i, hMax2_i, hMin3_i, hInt1_b, hInt1_i, hBits_i, hListOf_l, hListOf_t, hTupOf_l, hTupOf_t, gSeqS_def, gSet_def, gRet_def, gIfS_def, gNext_def, gTup_def, gLst_def, List.getElem?_cons_zero, List.getElem?_cons_succ, List.set_cons_zero, List.set_cons_succ, List.length_cons, List.length_nil, Nat.zero_add, Nat.reduceAdd, Nat.reduceLeDiff, Nat.reduceSub, Nat.reduceMul, if_true, if_false, Bool.false_eq_true, List.replicate_succ, List.replicate_zero, List.cons_append, List.nil_append, tgN, tgT, tgCons, tgNil, Int.reducePow, Int.reduceAdd, Int.reduceSub, Int.reduceMul, decide_true, decide_false, Bool.not_true, Bool.not_false, gChain_def, hIsa_int, hIsa_intb, hIsa_list, hIsa_tuple, gDrop_def, List.length_map, e])).trans rfl) ?_
      refine seq_step (set_ok hrows) ?_
      dsimp only [List.set]
      exact seq_step (for_ok (hz _ rfl rfl) hf) rfl
    · refine ⟨false, ?_, ⟨fun z => Bool.noConfusion z, fun z => (hq z.symm).elim⟩⟩
      refine fnNX_rt ?_
      show g_layers_right [.int n, .list (r.map enc3), .int (k : Nat), .list (ns.map .int), .none, .none, .none, .none] = _
      unfold g_layers_right
      refine seq_step hdrop ?_
      refine seq_step ((if_f (by simp only [bnd_ok, gVar_def, gC_def, gOp_def, gUn_def, gNil_def, gCons_def, gIf_def, gTest_def, gNot_def, gAnd_def, gOr_def, gAndV_def, gOrV_def, gNotV_def, gCB_def, asB_b, hAdd_i, hSub_i, hLt_i, hLe_i, hGt_i, hGe_i, hMul_r, hMul_l, hMod_i, hDiv_s, hBand_i, hShr_i, hPow_10_18, hPow_10_27, hPow_10_28, hPow_10_29, hPow_10_30, hEq_i, hNe_i, hLen_l, hLen_t, hMin2_i, hMax2_i, hMin3_i, hInt1_b, hInt1_i, hBits_i, hListOf_l, hListOf_t, hTupOf_l, hTupOf_t, gSeqS_def, gSet_def, gRet_def, gIfS_def, gNext_def, gTup_def, gLst_def, List.getElem?_cons_zero, List.getElem?_cons_succ, List.set_cons_zero, List.set_cons_succ, List.length_cons, List.length_nil, Nat.zero_add, Nat.reduceAdd, Nat.reduceLeDiff, Nat.reduceSub, Nat.reduceMul, if_true, if_false, Bool.false_eq_true, List.replicate_succ, List.replicate_zero, List.cons_append, List.nil_append, tgN, tgT, tgCons, tgNil, Int.reducePow, Int.reduceAdd, Int.reduceSub, Int.reduceMul, decide_true, decide_false, Bool.not_true, Bool.not_false, gChain_def, hIsa_int, hIsa_intb, hIsa_list, hIsa_tuple, gDrop_def, List.length_map, e])).trans rfl) ?_
      refine seq_step (set_ok hrows) ?_
      dsimp only [List.set]
      exact seq_rt (for_ok (hz _ rfl rfl) hf)
  · refine ⟨false, ?_, ⟨fun z => Bool.noConfusion z, fun z => (hlen (by rw [z, lay_len])).elim⟩⟩
    refine fnNX_rt ?_
    show g_layers_right [.int n, .list (r.map enc3), .int (k : Nat), .list (ns.map .int), .none, .none, .none, .none] = _
    unfold g_layers_right
    have e : ((ns.length : Int) == (r.length : Int)) = false := by rw [beq_eq_false_iff_ne]; omega
    refine seq_step hdrop ?_
    exact seq_rt ((if_t (by simp only [bnd_ok, gVar_def, gC_def, gOp_def, gUn_def, gNil_def, gCons_def, gIf_def, gTest_def, gNot_def, gAnd_def, gOr_def, gAndV_def, gOrV_def, gNotV_def, gCB_def, asB_b, hAdd_i, hSub_i, hLt_i, hLe_i, hGt_i, hGe_i, hMul_r, hMul_l, hMod_i, hDiv_s, hBand_i, hShr_i, hPow_10_18, hPow_10_27, hPow_10_28, hPow_10_29, hPow_10_30, hEq_i, hNe_i, hLen_l, hLen_t, hMin2_i, hMax2_i, hMin3_i, hInt1_b, hInt1_i, hBits_i, hListOf_l, hListOf_t, hTupOf_l, hTupOf_t, gSeqS_def, gSet_def, gRet_def, gIfS_def, gNext_def, gTup_def, gLst_def, List.getElem?_cons_zero, List.getElem?_cons_succ, List.set_cons_zero, List.set_cons_succ, List.length_cons, List.length_nil, Nat.zero_add, Nat.reduceAdd, Nat.reduceLeDiff, Nat.reduceSub, Nat.reduceMul, if_true, if_false, Bool.false_eq_true, List.replicate_succ, List.replicate_zero, List.cons_append, List.nil_append, tgN, tgT, tgCons, tgNil, Int.reducePow, Int.reduceAdd, Int.reduceSub, Int.reduceMul, decide_true, decide_false, Bool.not_true, Bool.not_false, gChain_def, hIsa_int, hIsa_intb, hIsa_list, hIsa_tuple, gDrop_def, List.length_map, e])).trans rfl)
end K13
end T_K13R

section T_K13P
set_option linter.all false
set_option maxRecDepth 100000
set_option maxHeartbeats 4000000
namespace K13
open PySem Sim FamA FamL Lay

abbrev NL : Exn := ⟨"NoLayers", none⟩
def things (far : Int) : List Dt := [.int 0, .int 7, .int (-1), .int (7 + far), .int (0 - 1 - far), .bool true, .bool false, .none, .str "2", .str "", .list [.int 2], .tuple [.int 2], .dict [], .dict [(.int 2, .int 2)], .tuple [], .list []]
theorem dep_int {i : Int} (h : ¬ (1 ≤ i ∧ i ≤ 6)) : f_is_depth [.int i] = .ok (.bool false) := by
  refine fnN_rt ?_
  show g_is_depth [.int i] = _
  unfold g_is_depth FamL.g_is_depth
  have e1 : f_is_whole [.int i] = .ok (.bool true) := rfl
  by_cases c : 1 ≤ i
  · have c2 : ¬ i ≤ 6 := fun z => h ⟨c, z⟩
    simp only [bnd_ok, gVar_def, gC_def, gOp_def, gUn_def, gNil_def, gCons_def, gIf_def, gTest_def, gNot_def, gAnd_def, gOr_def, gAndV_def, gOrV_def, gNotV_def, gCB_def, asB_b, hAdd_i, hSub_i, hLt_i, hLe_i, hGt_i, hGe_i, hMul_r, hMul_l, hMod_i, hDiv_s, hBand_i, hShr_i, hPow_10_18, hPow_10_27, hPow_10_28, hPow_10_29, hPow_10_30, hEq_i, hNe_i, hLen_l, hLen_t, hMin2_i, hMax2_i, hMin3_i, hInt1_b, hInt1_i, hBits_i, hListOf_l, hListOf_t, hTupOf_l, hTupOf_t, gSeqS_def, gSet_def, gRet_def, gIfS_def, gNext_def, gTup_def, gLst_def, List.getElem?_cons_zero, List.getElem?_cons_succ, List.set_cons_zero, List.set_cons_succ, List.length_cons, List.length_nil, Nat.zero_add, Nat.reduceAdd, Nat.reduceLeDiff, Nat.reduceSub, Nat.reduceMul, if_true, if_false, Bool.false_eq_true, List.replicate_succ, List.replicate_zero, List.cons_append, List.nil_append, tgN, tgT, tgCons, tgNil, Int.reducePow, Int.reduceAdd, Int.reduceSub, Int.reduceMul, decide_true, decide_false, Bool.not_true, Bool.not_false, gChain_def, hIsa_int, hIsa_intb, hIsa_list, hIsa_tuple, gDrop_def, gCallN_def, gAsg_def, gSl_def, gNoPart_def, gPart_def, hSl_from', hSl_to', e1, c, c2]
  · simp only [bnd_ok, gVar_def, gC_def, gOp_def, gUn_def, gNil_def, gCons_def, gIf_def, gTest_def, gNot_def, gAnd_def, gOr_def, gAndV_def, gOrV_def, gNotV_def, gCB_def, asB_b, hAdd_i, hSub_i, hLt_i, hLe_i, hGt_i, hGe_i, hMul_r, hMul_l, hMod_i, hDiv_s, hBand_i, hShr_i, hPow_10_18, hPow_10_27, hPow_10_28, hPow_10_29, hPow_10_30, hEq_i, hNe_i, hLen_l, hLen_t, hMin2_i, hMax2_i, hMin3_i, hInt1_b, hInt1_i, hBits_i, hListOf_l, hListOf_t, hTupOf_l, hTupOf_t, gSeqS_def, gSet_def, gRet_def, gIfS_def, gNext_def, gTup_def, gLst_def, List.getElem?_cons_zero, List.getElem?_cons_succ, List.set_cons_zero, List.set_cons_succ, List.length_cons, List.length_nil, Nat.zero_add, Nat.reduceAdd, Nat.reduceLeDiff, Nat.reduceSub, Nat.reduceMul, if_true, if_false, Bool.false_eq_true, List.replicate_succ, List.replicate_zero, List.cons_append, List.nil_append, tgN, tgT, tgCons, tgNil, Int.reducePow, Int.reduceAdd, Int.reduceSub, Int.reduceMul, decide_true, decide_false, Bool.not_true, Bool.not_false, gChain_def, hIsa_int, hIsa_intb, hIsa_list, hIsa_tuple, gDrop_def, gCallN_def, gAsg_def, gSl_def, gNoPart_def, gPart_def, hSl_from', hSl_to', e1, c]
theorem dep_things {far : Int} (h0 : 0 ≤ far) : ∀ d ∈ things far, f_is_depth [d] = .ok (.bool false) := by
  intro d hd
  simp only [things, List.mem_cons, List.not_mem_nil, or_false] at hd
  rcases hd with rfl | rfl | rfl | rfl | rfl | rfl | rfl | rfl | rfl | rfl | rfl | rfl | rfl | rfl | rfl | rfl
  · exact dep_int (by omega)
  · exact dep_int (by omega)
  · exact dep_int (by omega)
  · exact dep_int (by omega)
  · exact dep_int (by omega)
  all_goals rfl
theorem thing_ok {far x : Int} (h0 : 0 ≤ far) (hx : 0 ≤ x) : ∃ d, f_l_thing [.int far, .int x] = .ok d ∧ f_is_depth [d] = .ok (.bool false) := by
  have hl : (x % 16).toNat < (things far).length := by
    show _ < 16
    omega
  refine ⟨(things far)[(x % 16).toNat], ?_, dep_things h0 _ (List.getElem_mem _)⟩
  refine fnN_rt ?_
  show g_l_thing [.int far, .int x, .none] = _
  unfold g_l_thing
  refine seq_step (ρ' := [.int far, .int x, .list (things far)]) rfl ?_
  have e := hIx_ds hl
  have ex : (((x % 16).toNat : Nat) : Int) = x % 16 := by omega
  rw [ex] at e
  simp (disch := first | omega | decide) only [bnd_ok, gVar_def, gC_def, gOp_def, gUn_def, gNil_def, gCons_def, gIf_def, gTest_def, gNot_def, gAnd_def, gOr_def, gAndV_def, gOrV_def, gNotV_def, gCB_def, asB_b, hAdd_i, hSub_i, hLt_i, hLe_i, hGt_i, hGe_i, hMul_r, hMul_l, hMod_i, hDiv_s, hBand_i, hShr_i, hPow_10_18, hPow_10_27, hPow_10_28, hPow_10_29, hPow_10_30, hEq_i, hNe_i, hLen_l, hLen_t, hMin2_i, hMax2_i, hMin3_i, hInt1_b, hInt1_i, hBits_i, hListOf_l, hListOf_t, hTupOf_l, hTupOf_t, gSeqS_def, gSet_def, gRet_def, gIfS_def, gNext_def, gTup_def, gLst_def, List.getElem?_cons_zero, List.getElem?_cons_succ, List.set_cons_zero, List.set_cons_succ, List.length_cons, List.length_nil, Nat.zero_add, Nat.reduceAdd, Nat.reduceLeDiff, Nat.reduceSub, Nat.reduceMul, if_true, if_false, Bool.false_eq_true, List.replicate_succ, List.replicate_zero, List.cons_append, List.nil_append, tgN, tgT, tgCons, tgNil, Int.reducePow, Int.reduceAdd, Int.reduceSub, Int.reduceMul, decide_true, decide_false, Bool.not_true, Bool.not_false, gChain_def, hIsa_int, hIsa_intb, hIsa_list, hIsa_tuple, gDrop_def, e]
theorem look_ex {d : Dt} (h : f_is_depth [d] = .ok (.bool false)) : f_look_at_layers [d] = .ex NL := by
  refine fnNX_ex ?_
  show g_look_at_layers [d] = _
  unfold g_look_at_layers
  have c1 : gCallN 1 f_is_depth (gCons (gVar 0) (gNil)) [d] = .ok (.bool false) := callN_ok (ds := [d]) rfl rfl h
  exact (if_t (by simp only [gNot_def, gTest_def, c1, bnd_ok, asB_b, Bool.not_false])).trans rfl
theorem layered_ex {a b d : Dt} (h : f_is_depth [d] = .ok (.bool false)) : f_layered [a, b, d] = .ex NL := by
  refine fnLX_ex ?_
  show g_layered [a, b, d, .none, .none, .none, .none, .none, .none] = _
  exact seq_ex (drop_ex (callX_ex (ds := [d]) rfl rfl (look_ex h)))
theorem right_ex {a b d e : Dt} (h : f_is_depth [d] = .ok (.bool false)) : f_layers_right [a, b, d, e] = .ex NL := by
  refine fnNX_ex ?_
  show g_layers_right [a, b, d, e, .none, .none, .none, .none] = _
  exact seq_ex (drop_ex (callX_ex (ds := [d]) rfl rfl (look_ex h)))
theorem strands_ex {a b d e : Dt} (h : f_is_depth [d] = .ok (.bool false)) : f_strands [a, b, d, e] = .ex NL := by
  refine fnNX_ex ?_
  show g_strands [a, b, d, e, .none, .none, .none, .none, .none, .none] = _
  exact seq_ex (set_ex (callX_ex (ds := [a, b, d]) rfl rfl (layered_ex h)))
theorem refused_of {a d w : Dt} {R : List Dt} (hb : ∀ x y : Dt, gIfS (gTest (gOp hEq (gVar 3) (gC (.int (0))))) (gDrop (gCallX 3 f_layered (gCons (gVar 0) (gCons (gVar 1) (gCons (gVar 2) (gNil)))))) (gIfS (gTest (gOp hEq (gVar 3) (gC (.int (1))))) (gDrop (gCallX 4 f_layers_right (gCons (gVar 0) (gCons (gVar 1) (gCons (gVar 2) (gCons (gOp hRep (gLst (gCons (gC (.int (1))) (gNil))) (gCB hLen (gCons (gVar 1) (gNil)))) (gNil))))))) (gIfS (gTest (gOp hEq (gVar 3) (gC (.int (3))))) (gDrop (gCallX 4 f_layers_right (gCons (gVar 0) (gCons (gVar 1) (gCons (gVar 2) (gCons (gLst (gNil)) (gNil))))))) (gDrop (gCallX 4 f_strands (gCons (gVar 0) (gCons (gVar 1) (gCons (gVar 2) (gCons (gC (.int (0))) (gNil))))))))) [a, .list R, d, w, x, y] = .ex NL) :
    f_l_refused [a, .list R, d, w] = .ok (.bool true) := by
  refine fnN_rt ?_
  show g_l_refused [a, .list R, d, w, .none, .none] = _
  unfold g_l_refused
  refine seq_step (ρ' := [a, .list R, d, w, .none, .none]) rfl ?_
  refine seq_step (ρ' := [a, .list R, d, w, exnD "NoLayers" none, exnD "NoLayers" none]) (try_ex (hb .none .none) (by decide +kernel) rfl) ?_
  kernel_rfl
theorem arg1 (a d w x y : Dt) {R : List Dt} (hl : R.length < 100) : gCons (gVar 0) (gCons (gVar 1) (gCons (gVar 2) (gCons (gOp hRep (gLst (gCons (gC (.int (1))) (gNil))) (gCB hLen (gCons (gVar 1) (gNil)))) (gNil)))) [a, .list R, d, w, x, y] = .ok [a, .list R, d, .list (List.replicate (R.length : Int).toNat [.int 1]).flatten] := by
  have hr := hRep_l (xs := [.int 1]) (k := (R.length : Int)) (by omega) (by omega) (by simp)
  have e1 : gCB hLen (gCons (gVar 1) (gNil)) [a, .list R, d, w, x, y] = .ok (.int R.length) := by simp only [bnd_ok, gVar_def, gC_def, gOp_def, gUn_def, gNil_def, gCons_def, gIf_def, gTest_def, gNot_def, gAnd_def, gOr_def, gAndV_def, gOrV_def, gNotV_def, gCB_def, asB_b, hAdd_i, hSub_i, hLt_i, hLe_i, hGt_i, hGe_i, hMul_r, hMul_l, hMod_i, hDiv_s, hBand_i, hShr_i, hPow_10_18, hPow_10_27, hPow_10_28, hPow_10_29, hPow_10_30, hEq_i, hNe_i, hLen_l, hLen_t, hMin2_i, hMax2_i, hMin3_i, hInt1_b, hInt1_i, hBits_i, hListOf_l, hListOf_t, hTupOf_l, hTupOf_t, gSeqS_def, gSet_def, gRet_def, gIfS_def, gNext_def, gTup_def, gLst_def, List.getElem?_cons_zero, List.getElem?_cons_succ, List.set_cons_zero, List.set_cons_succ, List.length_cons, List.length_nil, Nat.zero_add, Nat.reduceAdd, Nat.reduceLeDiff, Nat.reduceSub, Nat.reduceMul, if_true, if_false, Bool.false_eq_true, List.replicate_succ, List.replicate_zero, List.cons_append, List.nil_append, tgN, tgT, tgCons, tgNil, Int.reducePow, Int.reduceAdd, Int.reduceSub, Int.reduceMul, decide_true, decide_false, Bool.not_true, Bool.not_false, gChain_def, hIsa_int, hIsa_intb, hIsa_list, hIsa_tuple, gDrop_def]
  have e2 : gLst (gCons (gC (.int (1))) (gNil)) [a, .list R, d, w, x, y] = .ok (.list [.int 1]) := rfl
  have e3 : gOp hRep (gLst (gCons (gC (.int (1))) (gNil))) (gCB hLen (gCons (gVar 1) (gNil))) [a, .list R, d, w, x, y] = .ok (.list (List.replicate (R.length : Int).toNat [.int 1]).flatten) := by
    rw [gOp_def, e1, e2, bnd_ok, bnd_ok, hr]
  rw [gCons_def, gCons_def, gCons_def, gCons_def, e3]
  rfl
theorem arg3 (a d w x y : Dt) {R : List Dt} : gCons (gVar 0) (gCons (gVar 1) (gCons (gVar 2) (gCons (gLst (gNil)) (gNil)))) [a, .list R, d, w, x, y] = .ok [a, .list R, d, .list []] := rfl
theorem tst (a b d x y : Dt) (w k : Int) : gTest (gOp hEq (gVar 3) (gC (.int k))) [a, b, d, .int w, x, y] = .ok (w == k) := by
  simp only [bnd_ok, gVar_def, gC_def, gOp_def, gUn_def, gNil_def, gCons_def, gIf_def, gTest_def, gNot_def, gAnd_def, gOr_def, gAndV_def, gOrV_def, gNotV_def, gCB_def, asB_b, hAdd_i, hSub_i, hLt_i, hLe_i, hGt_i, hGe_i, hMul_r, hMul_l, hMod_i, hDiv_s, hBand_i, hShr_i, hPow_10_18, hPow_10_27, hPow_10_28, hPow_10_29, hPow_10_30, hEq_i, hNe_i, hLen_l, hLen_t, hMin2_i, hMax2_i, hMin3_i, hInt1_b, hInt1_i, hBits_i, hListOf_l, hListOf_t, hTupOf_l, hTupOf_t, gSeqS_def, gSet_def, gRet_def, gIfS_def, gNext_def, gTup_def, gLst_def, List.getElem?_cons_zero, List.getElem?_cons_succ, List.set_cons_zero, List.set_cons_succ, List.length_cons, List.length_nil, Nat.zero_add, Nat.reduceAdd, Nat.reduceLeDiff, Nat.reduceSub, Nat.reduceMul, if_true, if_false, Bool.false_eq_true, List.replicate_succ, List.replicate_zero, List.cons_append, List.nil_append, tgN, tgT, tgCons, tgNil, Int.reducePow, Int.reduceAdd, Int.reduceSub, Int.reduceMul, decide_true, decide_false, Bool.not_true, Bool.not_false, gChain_def, hIsa_int, hIsa_intb, hIsa_list, hIsa_tuple, gDrop_def]
theorem refused_ok {a d : Dt} {R : List Dt} {w : Int} (h : f_is_depth [d] = .ok (.bool false)) (h0 : 0 ≤ w) (h3 : w ≤ 3) (hl : R.length < 100) : f_l_refused [a, .list R, d, .int w] = .ok (.bool true) := by
  refine refused_of fun x y => ?_
  have t0 := tst a (.list R) d x y w 0
  have t1 := tst a (.list R) d x y w 1
  have t3 := tst a (.list R) d x y w 3
  have hw : w = 0 ∨ w = 1 ∨ w = 2 ∨ w = 3 := by omega
  rcases hw with rfl | rfl | rfl | rfl
  · rw [if_t t0]
    exact drop_ex (callX_ex (ds := [a, .list R, d]) rfl rfl (layered_ex h))
  · rw [if_f t0, if_t t1]
    exact drop_ex (callX_ex (arg1 a d _ x y hl) rfl (right_ex h))
  · rw [if_f t0, if_f t1, if_f t3]
    exact drop_ex (callX_ex (ds := [a, .list R, d, .int 0]) rfl rfl (strands_ex h))
  · rw [if_f t0, if_f t1, if_t t3]
    exact drop_ex (callX_ex (arg3 a d _ x y) rfl (right_ex h))
end K13
end T_K13P

section T_K13Q
set_option linter.all false
set_option maxRecDepth 100000
set_option maxHeartbeats 4000000
namespace K13
open PySem Sim FamA FamL Lay

/-! ### strands of the youngest tie -/
theorem num_nil {k : Nat} {a b : Int} (k1 : 1 ≤ k) : num k [] [] a b = if a = b then 0 else 1 := by
  obtain ⟨j, rfl⟩ : ∃ j, k = j + 1 := ⟨k - 1, by omega⟩
  have hl : ∀ i : Int, layer i ([] : List T3) [] = [] := fun i => rfl
  by_cases c : a = b
  · subst c
    rw [if_pos rfl]
    unfold num
    have : ∀ (m lo : Nat), fj (fun j => ¬ Conn (layer ((j : Int) + 1) [] []) a a) lo m = 0 := by
      intro m
      induction m with
      | zero => intro lo; rfl
      | succ m ih =>
        intro lo
        unfold fj
        rw [if_neg (fun z => z (by rw [hl, conn_nil]))]
        exact ih _
    exact this _ _
  · rw [if_neg c]
    unfold num fj
    rw [if_pos (fun z => c (by rw [hl, conn_nil] at z; exact z))]
    rfl
theorem strands_ok {n : Int} {r : List T3} {t : T3} (hin : InN n (r ++ [t])) (hl : r.length ≤ 100) (n1 : 1 ≤ n) (n10 : n ≤ 10) (ha : t.2.1 = 0) (hb : t.2.2 = n - 1) :
    f_strands [.int n, .list ((r ++ [t]).map enc3), .int 1, .int (r.length : Nat)] = .ok (.list []) ∨ f_strands [.int n, .list ((r ++ [t]).map enc3), .int 1, .int (r.length : Nat)] = .ok (.list [.list []]) := by
  have hlay := le_layered _ _ (layered_ok (k := 1) hin (by rw [List.length_append, List.length_singleton]; omega) n1 n10 (by omega) (by omega))
  obtain ⟨w, ew, lw⟩ := lay_app 1 [t] r
  have e1 : lay 1 [t] = [num 1 [] [] t.2.1 t.2.2] := rfl
  rw [e1, num_nil (by omega), ha, hb] at ew
  have hset : ∀ x5 x6 x7 x8 x9 : Dt, gSet 4 (gCallX 3 f_layered (gCons (gVar 0) (gCons (gVar 1) (gCons (gVar 2) (gNil))))) [.int n, .list ((r ++ [t]).map enc3), .int 1, .int (r.length : Nat), .none, x5, x6, x7, x8, x9] =
      .ok (.nx [.int n, .list ((r ++ [t]).map enc3), .int 1, .int (r.length : Nat), .list ((lay 1 (r ++ [t])).map .int), x5, x6, x7, x8, x9]) := fun x5 x6 x7 x8 x9 =>
    set_ok (callX_ok (ds := [.int n, .list ((r ++ [t]).map enc3), .int 1]) rfl rfl hlay)
  have hix : hIx (.list ((lay 1 (r ++ [t])).map .int)) (.int (r.length : Nat)) = .ok (.int (if (0 : Int) = n - 1 then 0 else 1)) := by
    rw [hIx_ints (by omega) (by rw [lay_len, List.length_append, List.length_singleton]; omega)]
    congr 2
    have : ∀ (L : List Int) (h : ((r.length : Nat) : Int).toNat < L.length), L = w ++ [if (0 : Int) = n - 1 then 0 else 1] → L[((r.length : Nat) : Int).toNat]'h = (if (0 : Int) = n - 1 then 0 else 1) := by
      rintro L h rfl
      have : ((r.length : Nat) : Int).toNat = w.length := by omega
      simp [this]
    exact this _ _ ew
  have hrt : ∀ x : Dt, hIx (.list ((r ++ [t]).map enc3)) (.int (r.length : Nat)) = .ok (enc3 t) := fun _ => by
    have hlt : r.length < ((r ++ [t]).map enc3).length := by rw [List.length_map, List.length_append, List.length_singleton]; omega
    rw [hIx_ds hlt]
    simp
  have h0 : ∀ z : Dt, (show List Dt → O Dt from fnNX 10 g_strands) [.int n, .list ((r ++ [t]).map enc3), .int 1, .int (r.length : Nat)] = .ok z ↔ f_strands [.int n, .list ((r ++ [t]).map enc3), .int 1, .int (r.length : Nat)] = .ok z := fun z => Iff.rfl
  by_cases c : n = 1
  · right
    subst c
    have c0 : (0 : Int) = 1 - 1 := by omega
    rw [if_pos c0] at hix
    refine fnNX_rt ?_
    show g_strands [.int 1, .list ((r ++ [t]).map enc3), .int 1, .int (r.length : Nat), .none, .none, .none, .none, .none, .none] = _
    unfold g_strands
    refine seq_step (hset _ _ _ _ _) ?_
    apply seq_step
    · simp (disch := first | omega | with_unfolding_all rfl | assumption | decide | (simp only [List.length_cons, List.length_nil]; omega)) only [bnd_ok, gVar_def, gC_def, gOp_def, gUn_def, gNil_def, gCons_def, gIf_def, gTest_def, gNot_def, gAnd_def, gOr_def, gAndV_def, gOrV_def, gNotV_def, gCB_def, asB_b, hAdd_i, hSub_i, hLt_i, hLe_i, hGt_i, hGe_i, hMul_r, hMul_l, hMod_i, hDiv_s, hBand_i, hShr_i, hPow_10_18, hPow_10_27, hPow_10_28, hPow_10_29, hPow_10_30, hEq_i, hNe_i, hLen_l, hLen_t, hMin2_i, hMax2_i, hMin3_i, hInt1_b, hInt1_i, hBits_i, hListOf_l, hListOf_t, hTupOf_l, hTupOf_t, gSeqS_def, gSet_def, gRet_def, gIfS_def, gNext_def, gTup_def, gLst_def, List.getElem?_cons_zero, List.getElem?_cons_succ, List.set_cons_zero, List.set_cons_succ, List.length_cons, List.length_nil, Nat.zero_add, Nat.reduceAdd, Nat.reduceLeDiff, Nat.reduceSub, Nat.reduceMul, if_true, if_false, Bool.false_eq_true, List.replicate_succ, List.replicate_zero, List.cons_append, List.nil_append, tgN, tgT, tgCons, tgNil, Int.reducePow, Int.reduceAdd, Int.reduceSub, Int.reduceMul, decide_true, decide_false, Bool.not_true, Bool.not_false, gChain_def, hIsa_int, hIsa_intb, hIsa_list, hIsa_tuple, gDrop_def, gCallN_def, gAsg_def, gSl_def, gNoPart_def, gPart_def, hSl_from', hSl_to', hix]
      rfl
    apply seq_step
    · refine (if_t (by simp only [bnd_ok, gVar_def, gC_def, gOp_def, gUn_def, gNil_def, gCons_def, gIf_def, gTest_def, gNot_def, gAnd_def, gOr_def, gAndV_def, gOrV_def, gNotV_def, gCB_def, asB_b, hAdd_i, hSub_i, hLt_i, hLe_i, hGt_i, hGe_i, hMul_r, hMul_l, hMod_i, hDiv_s, hBand_i, hShr_i, hPow_10_18, hPow_10_27, hPow_10_28, hPow_10_29, hPow_10_30, hEq_i, hNe_i, hLen_l, hLen_t, hMin2_i, hMax2_i, hMin3_i, hInt1_b, hInt1_i, hBits_i, hListOf_l, hListOf_t, hTupOf_l, hTupOf_t, gSeqS_def, gSet_def, gRet_def, gIfS_def, gNext_def, gTup_def, gLst_def, List.getElem?_cons_zero, List.getElem?_cons_succ, List.set_cons_zero, List.set_cons_succ, List.length_cons, List.length_nil, Nat.zero_add, Nat.reduceAdd, Nat.reduceLeDiff, Nat.reduceSub, Nat.reduceMul, if_true, if_false, Bool.false_eq_true, List.replicate_succ, List.replicate_zero, List.cons_append, List.nil_append, tgN, tgT, tgCons, tgNil, Int.reducePow, Int.reduceAdd, Int.reduceSub, Int.reduceMul, decide_true, decide_false, Bool.not_true, Bool.not_false, gChain_def, hIsa_int, hIsa_intb, hIsa_list, hIsa_tuple, gDrop_def, hix]; rfl)).trans ?_
      rfl
    refine seq_step (ρ' := [.int 1, .list ((r ++ [t]).map enc3), .int 1, .int (r.length : Nat), .list ((lay 1 (r ++ [t])).map .int), .int 1, .list [], .none, .none, .none]) rfl ?_
    have hr : gRng2 (gCons (gC (.int (1))) (gCons (gOp hAdd (gVar 5) (gC (.int (1)))) (gNil))) [.int 1, .list ((r ++ [t]).map enc3), .int 1, .int (r.length : Nat), .list ((lay 1 (r ++ [t])).map .int), .int 1, .list [], .none, .none, .none] = .ok [.int 1] :=
      (rng2_ok (i := 1) (j := 2) rfl (by omega) (by omega) (by omega) (by omega)).trans rfl
    have hlc : ∀ ρ : List Dt, ρ[3]? = some (.int (r.length : Nat)) → ρ[1]? = some (.list ((r ++ [t]).map enc3)) → gLc (gRng2 (gCons (gOp hAdd (gVar 3) (gC (.int (1)))) (gCons (gCB hLen (gCons (gVar 1) (gNil))) (gNil)))) (tgN 9) (gTest (gOp hEq (gOp hIx (gVar 4) (gVar 9)) (gVar 7))) (gOp hIx (gVar 1) (gVar 9)) ρ = .ok (.list []) := fun ρ h3 h1 => by
      have hh : gRng2 (gCons (gOp hAdd (gVar 3) (gC (.int (1)))) (gCons (gCB hLen (gCons (gVar 1) (gNil))) (gNil))) ρ = .ok [] := by
        rw [rng2_ok (i := (r.length : Int) + 1) (j := (r.length : Int) + 1) (by simp only [bnd_ok, gVar_def, gC_def, gOp_def, gUn_def, gNil_def, gCons_def, gIf_def, gTest_def, gNot_def, gAnd_def, gOr_def, gAndV_def, gOrV_def, gNotV_def, gCB_def, asB_b, hAdd_i, hSub_i, hLt_i, hLe_i, hGt_i, hGe_i, hMul_r, hMul_l, hMod_i, hDiv_s, hBand_i, hShr_i, hPow_10_18, hPow_10_27, hPow_10_28, hPow_10_29, hPow_10_30, hEq_i, hNe_i, hLen_l, hLen_t, hMin2_i, hMax2_i, hMin3_i, hInt1_b, hInt1_i, hBits_i, hListOf_l, hListOf_t, hTupOf_l, hTupOf_t, gSeqS_def, gSet_def, gRet_def, gIfS_def, gNext_def, gTup_def, gLst_def, List.getElem?_cons_zero, List.getElem?_cons_succ, List.set_cons_zero, List.set_cons_succ, List.length_cons, List.length_nil, Nat.zero_add, Nat.reduceAdd, Nat.reduceLeDiff, Nat.reduceSub, Nat.reduceMul, if_true, if_false, Bool.false_eq_true, List.replicate_succ, List.replicate_zero, List.cons_append, List.nil_append, tgN, tgT, tgCons, tgNil, Int.reducePow, Int.reduceAdd, Int.reduceSub, Int.reduceMul, decide_true, decide_false, Bool.not_true, Bool.not_false, gChain_def, hIsa_int, hIsa_intb, hIsa_list, hIsa_tuple, gDrop_def, h3, h1, List.length_map, List.length_append]; rfl) (by omega) (by omega) (by omega) (by omega)]
        unfold rangeD
        simp
      unfold gLc
      rw [hh]
      rfl
    have hway : f_way_in [.list [], .int 0, .int 0] = .ok (.list []) := by kernel_rfl
    refine seq_step (ρ' := [.int 1, .list ((r ++ [t]).map enc3), .int 1, .int (r.length : Nat), .list ((lay 1 (r ++ [t])).map .int), .int 1, .list [.list []], .int 1, .list [], .none]) (for_ok hr ?_) rfl
    unfold forE
    have ht : tgN 7 (.int 1) [.int 1, .list ((r ++ [t]).map enc3), .int 1, .int (r.length : Nat), .list ((lay 1 (r ++ [t])).map .int), .int 1, .list [], .none, .none, .none] = .ok [.int 1, .list ((r ++ [t]).map enc3), .int 1, .int (r.length : Nat), .list ((lay 1 (r ++ [t])).map .int), .int 1, .list [], .int 1, .none, .none] := rfl
    rw [ht]
    have hb' : g_strands_L1 [.int 1, .list ((r ++ [t]).map enc3), .int 1, .int (r.length : Nat), .list ((lay 1 (r ++ [t])).map .int), .int 1, .list [], .int 1, .none, .none] = .ok (.nx [.int 1, .list ((r ++ [t]).map enc3), .int 1, .int (r.length : Nat), .list ((lay 1 (r ++ [t])).map .int), .int 1, .list [.list []], .int 1, .list [], .none]) := by
      unfold g_strands_L1
      refine seq_step (set_ok (hlc _ rfl rfl)) ?_
      refine gApp_l (ds := []) rfl (callN_ok (ds := [.list [], .int 0, .int 0]) ?_ rfl hway) (by decide)
      have e0 := hrt .none
      have e2 : t.2.2 = 0 := by omega
      have i1 : hIx (enc3 t) (.int 1) = .ok (.int 0) := by rw [ix3_1, ha]
      have i2 : hIx (enc3 t) (.int 2) = .ok (.int 0) := by rw [ix3_2, e2]
      dsimp only [List.set]
      simp only [bnd_ok, gVar_def, gC_def, gOp_def, gUn_def, gNil_def, gCons_def, gIf_def, gTest_def, gNot_def, gAnd_def, gOr_def, gAndV_def, gOrV_def, gNotV_def, gCB_def, asB_b, hAdd_i, hSub_i, hLt_i, hLe_i, hGt_i, hGe_i, hMul_r, hMul_l, hMod_i, hDiv_s, hBand_i, hShr_i, hPow_10_18, hPow_10_27, hPow_10_28, hPow_10_29, hPow_10_30, hEq_i, hNe_i, hLen_l, hLen_t, hMin2_i, hMax2_i, hMin3_i, hInt1_b, hInt1_i, hBits_i, hListOf_l, hListOf_t, hTupOf_l, hTupOf_t, gSeqS_def, gSet_def, gRet_def, gIfS_def, gNext_def, gTup_def, gLst_def, List.getElem?_cons_zero, List.getElem?_cons_succ, List.set_cons_zero, List.set_cons_succ, List.length_cons, List.length_nil, Nat.zero_add, Nat.reduceAdd, Nat.reduceLeDiff, Nat.reduceSub, Nat.reduceMul, if_true, if_false, Bool.false_eq_true, List.replicate_succ, List.replicate_zero, List.cons_append, List.nil_append, tgN, tgT, tgCons, tgNil, Int.reducePow, Int.reduceAdd, Int.reduceSub, Int.reduceMul, decide_true, decide_false, Bool.not_true, Bool.not_false, gChain_def, hIsa_int, hIsa_intb, hIsa_list, hIsa_tuple, gDrop_def, e0, i1, i2]
    simp only [hb', bnd_ok]
    rfl
  · left
    have c0 : ¬ (0 : Int) = n - 1 := by omega
    rw [if_neg c0] at hix
    refine fnNX_rt ?_
    show g_strands [.int n, .list ((r ++ [t]).map enc3), .int 1, .int (r.length : Nat), .none, .none, .none, .none, .none, .none] = _
    unfold g_strands
    refine seq_step (hset _ _ _ _ _) ?_
    apply seq_step
    · simp (disch := first | omega | with_unfolding_all rfl | assumption | decide | (simp only [List.length_cons, List.length_nil]; omega)) only [bnd_ok, gVar_def, gC_def, gOp_def, gUn_def, gNil_def, gCons_def, gIf_def, gTest_def, gNot_def, gAnd_def, gOr_def, gAndV_def, gOrV_def, gNotV_def, gCB_def, asB_b, hAdd_i, hSub_i, hLt_i, hLe_i, hGt_i, hGe_i, hMul_r, hMul_l, hMod_i, hDiv_s, hBand_i, hShr_i, hPow_10_18, hPow_10_27, hPow_10_28, hPow_10_29, hPow_10_30, hEq_i, hNe_i, hLen_l, hLen_t, hMin2_i, hMax2_i, hMin3_i, hInt1_b, hInt1_i, hBits_i, hListOf_l, hListOf_t, hTupOf_l, hTupOf_t, gSeqS_def, gSet_def, gRet_def, gIfS_def, gNext_def, gTup_def, gLst_def, List.getElem?_cons_zero, List.getElem?_cons_succ, List.set_cons_zero, List.set_cons_succ, List.length_cons, List.length_nil, Nat.zero_add, Nat.reduceAdd, Nat.reduceLeDiff, Nat.reduceSub, Nat.reduceMul, if_true, if_false, Bool.false_eq_true, List.replicate_succ, List.replicate_zero, List.cons_append, List.nil_append, tgN, tgT, tgCons, tgNil, Int.reducePow, Int.reduceAdd, Int.reduceSub, Int.reduceMul, decide_true, decide_false, Bool.not_true, Bool.not_false, gChain_def, hIsa_int, hIsa_intb, hIsa_list, hIsa_tuple, gDrop_def, gCallN_def, gAsg_def, gSl_def, gNoPart_def, gPart_def, hSl_from', hSl_to', hix]
      rfl
    apply seq_step
    · refine (if_f (by simp only [bnd_ok, gVar_def, gC_def, gOp_def, gUn_def, gNil_def, gCons_def, gIf_def, gTest_def, gNot_def, gAnd_def, gOr_def, gAndV_def, gOrV_def, gNotV_def, gCB_def, asB_b, hAdd_i, hSub_i, hLt_i, hLe_i, hGt_i, hGe_i, hMul_r, hMul_l, hMod_i, hDiv_s, hBand_i, hShr_i, hPow_10_18, hPow_10_27, hPow_10_28, hPow_10_29, hPow_10_30, hEq_i, hNe_i, hLen_l, hLen_t, hMin2_i, hMax2_i, hMin3_i, hInt1_b, hInt1_i, hBits_i, hListOf_l, hListOf_t, hTupOf_l, hTupOf_t, gSeqS_def, gSet_def, gRet_def, gIfS_def, gNext_def, gTup_def, gLst_def, List.getElem?_cons_zero, List.getElem?_cons_succ, List.set_cons_zero, List.set_cons_succ, List.length_cons, List.length_nil, Nat.zero_add, Nat.reduceAdd, Nat.reduceLeDiff, Nat.reduceSub, Nat.reduceMul, if_true, if_false, Bool.false_eq_true, List.replicate_succ, List.replicate_zero, List.cons_append, List.nil_append, tgN, tgT, tgCons, tgNil, Int.reducePow, Int.reduceAdd, Int.reduceSub, Int.reduceMul, decide_true, decide_false, Bool.not_true, Bool.not_false, gChain_def, hIsa_int, hIsa_intb, hIsa_list, hIsa_tuple, gDrop_def, hix]; rfl)).trans ?_
      rfl
    refine seq_step (ρ' := [.int n, .list ((r ++ [t]).map enc3), .int 1, .int (r.length : Nat), .list ((lay 1 (r ++ [t])).map .int), .int 0, .list [], .none, .none, .none]) rfl ?_
    have hr : gRng2 (gCons (gC (.int (1))) (gCons (gOp hAdd (gVar 5) (gC (.int (1)))) (gNil))) [.int n, .list ((r ++ [t]).map enc3), .int 1, .int (r.length : Nat), .list ((lay 1 (r ++ [t])).map .int), .int 0, .list [], .none, .none, .none] = .ok [] :=
      (rng2_ok (i := 1) (j := 1) rfl (by omega) (by omega) (by omega) (by omega)).trans rfl
    exact seq_step (for_ok hr rfl) rfl
end K13
end T_K13Q

section T_K13S
set_option linter.all false
set_option maxRecDepth 100000
set_option maxHeartbeats 4000000
namespace K13
open PySem Sim FamA FamL Lay

theorem step_f {h : Dt → List Dt → O (List Dt)} {b : Gs} {d : Dt} {ds ρ ρ1 ρ2 : List Dt} (e1 : h d ρ = .ok ρ1) (e2 : b ρ1 = .ok (.nx ρ2)) : forE h b (d :: ds) ρ = forE h b ds ρ2 := by
  rw [forE]
  simp only [e1, e2, bnd_ok]
theorem rng3 (sc cell N n r d x6 : Dt) : gRng1 (gCons (gC (.int (3))) (gNil)) [sc, cell, N, n, r, d, x6] = .ok [.int 0, .int 1, .int 2] := (rng1_ok (j := 3) rfl (by omega) (by omega)).trans rfl
theorem way_ok {sc cell N : Dt} {n : Int} {r : List T3} {d : Dt} (h : f_is_depth [d] = .ok (.bool false)) (hl : r.length < 100) (w : Int) (h0 : 0 ≤ w) (h3 : w ≤ 3) : g_law_L1 [sc, cell, N, .int n, .list (r.map enc3), d, .int w] = .ok (.nx [sc, cell, N, .int n, .list (r.map enc3), d, .int w]) := by
  have ha : gCons (gVar 3) (gCons (gCB (one hListOf) (gCons (gVar 4) gNil)) (gCons (gVar 5) (gCons (gVar 6) (gNil)))) [sc, cell, N, .int n, .list (r.map enc3), d, .int w] = .ok [.int n, .list (r.map enc3), d, .int w] := by simp only [bnd_ok, gVar_def, gC_def, gOp_def, gUn_def, gNil_def, gCons_def, gIf_def, gTest_def, gNot_def, gAnd_def, gOr_def, gAndV_def, gOrV_def, gNotV_def, gCB_def, asB_b, hAdd_i, hSub_i, hLt_i, hLe_i, hGt_i, hGe_i, hMul_r, hMul_l, hMod_i, hDiv_s, hBand_i, hShr_i, hPow_10_18, hPow_10_27, hPow_10_28, hPow_10_29, hPow_10_30, hEq_i, hNe_i, hLen_l, hLen_t, hMin2_i, hMax2_i, hMin3_i, hInt1_b, hInt1_i, hBits_i, hListOf_l, hListOf_t, hTupOf_l, hTupOf_t, gSeqS_def, gSet_def, gRet_def, gIfS_def, gNext_def, gTup_def, gLst_def, List.getElem?_cons_zero, List.getElem?_cons_succ, List.set_cons_zero, List.set_cons_succ, List.length_cons, List.length_nil, Nat.zero_add, Nat.reduceAdd, Nat.reduceLeDiff, Nat.reduceSub, Nat.reduceMul, if_true, if_false, Bool.false_eq_true, List.replicate_succ, List.replicate_zero, List.cons_append, List.nil_append, tgN, tgT, tgCons, tgNil, Int.reducePow, Int.reduceAdd, Int.reduceSub, Int.reduceMul, decide_true, decide_false, Bool.not_true, Bool.not_false, gChain_def, hIsa_int, hIsa_intb, hIsa_list, hIsa_tuple, gDrop_def]
  have c1 : gCallN 4 f_l_refused (gCons (gVar 3) (gCons (gCB (one hListOf) (gCons (gVar 4) gNil)) (gCons (gVar 5) (gCons (gVar 6) (gNil))))) [sc, cell, N, .int n, .list (r.map enc3), d, .int w] = .ok (.bool true) :=
    callN_ok ha rfl (refused_ok h h0 h3 (by rw [List.length_map]; exact hl))
  unfold g_law_L1
  exact (if_f (by simp only [gNot_def, gTest_def, c1, bnd_ok, asB_b, Bool.not_true])).trans rfl
theorem ways_ok {sc cell N : Dt} {n : Int} {r : List T3} {d x6 : Dt} (h : f_is_depth [d] = .ok (.bool false)) (hl : r.length < 100) :
    ∃ y6, gFor (gRng1 (gCons (gC (.int (3))) (gNil))) (tgN 6) g_law_L1 [sc, cell, N, .int n, .list (r.map enc3), d, x6] = .ok (.nx [sc, cell, N, .int n, .list (r.map enc3), d, y6]) := by
  exact ⟨.int 2, for_ok (rng3 _ _ _ _ _ _ _) ((step_f rfl (way_ok h hl 0 (by omega) (by omega))).trans ((step_f rfl (way_ok h hl 1 (by omega) (by omega))).trans ((step_f rfl (way_ok h hl 2 (by omega) (by omega))).trans rfl)))⟩
theorem hNotIn_st (z : Dt) (h : z = .list [] ∨ z = .list [.list []]) : hNotIn z (.tuple [.list [], .list [.list []]]) = .ok (.bool false) := by
  rcases h with rfl | rfl <;> kernel_rfl
theorem body_ok (sc : Dt) (cell : Int) (d2 d3 d4 d5 d6 : Dt) :
    ∃ e2 e3 e4 e5 e6, g_law_L2 [sc, .int cell, d2, d3, d4, d5, d6] = .ok (.nx [sc, .int cell, e2, e3, e4, e5, e6]) := by
  obtain ⟨N, hN, lN, bN⟩ := numbers_ok cell 30 (by omega) (by omega)
  have hN : f_l_numbers [.int cell, .int 30, .int 1000000000000000000000000000000] = .ok (.list (N.map .int)) := hN
  have lN : N.length = 30 := lN
  obtain ⟨x0, i0, b0⟩ := ix_ok bN (i := 0) (by omega) (by omega)
  obtain ⟨x1, i1, b1⟩ := ix_ok bN (i := 1) (by omega) (by omega)
  have bD : ∀ y ∈ N.drop 2, 0 ≤ y ∧ y < B30 := fun x hx => bN x (List.mem_of_mem_drop hx)
  obtain ⟨n, r, hR, n1, n10, hrec, hr8⟩ := record_ok (ns := N.drop 2) (most := 8) bD (by rw [List.length_drop]; omega) (by rw [List.length_drop]; omega) (by omega) (by omega)
  have hr8 : r.length ≤ 8 := by omega
  obtain ⟨d, hd, hdep⟩ := thing_ok b0.1 b1.1
  generalize ht : ((1000000000000000000000000000000, 0, n - 1) : T3) = t
  have ha : t.2.1 = 0 := by rw [← ht]
  have hb : t.2.2 = n - 1 := by rw [← ht]
  have hin : InN n (r ++ [t]) := fun s hs => by
    rcases List.mem_append.mp hs with hs | hs
    · have q := hrec.ties s hs
      have := q.a0; have := q.ab; have := q.bn
      exact ⟨⟨by omega, by omega⟩, by omega, by omega⟩
    · rw [List.mem_singleton.mp hs, ha, hb]
      exact ⟨⟨by omega, by omega⟩, by omega, by omega⟩
  have hR' : (r ++ [t]).length = r.length + 1 := by rw [List.length_append, List.length_singleton]
  have hcat : hCat (.list (r.map enc3)) (.list [enc3 t]) = .ok (.list ((r ++ [t]).map enc3)) := hCat_map enc3 r [t] (by rw [List.length_singleton]; omega)
  have hte : enc3 t = .tuple [.int 1000000000000000000000000000000, .int 0, .int (n - 1)] := by rw [← ht]; rfl
  rw [hte] at hcat
  have l1 := le_layered _ _ (layered_ok (k := 1) hin (by omega) n1 n10 (by omega) (by omega))
  have l6 := le_layered _ _ (layered_ok (k := 6) hin (by omega) n1 n10 (by omega) (by omega))
  have l1 : f_layered [.int n, .list ((r ++ [t]).map enc3), .int 1] = _ := l1
  have l6 : f_layered [.int n, .list ((r ++ [t]).map enc3), .int 6] = _ := l6
  obtain ⟨v, hv, hv2⟩ := layers_right_ok (ns := lay 6 (r ++ [t])) hin n1 n10 (by omega) 6 (by omega) (by omega)
  have hvt : v = true := hv2.mpr rfl
  subst hvt
  have hv : f_layers_right [.int n, .list ((r ++ [t]).map enc3), .int 6, .list ((lay 6 (r ++ [t])).map .int)] = .ok (.bool true) := hv
  have ll1 := lay_len 1 (r ++ [t])
  have ll6 := lay_len 6 (r ++ [t])
  have hst := strands_ok hin (by omega) n1 n10 ha hb
  generalize hRR : r ++ [t] = R at *
  have hw := ways_ok (sc := sc) (cell := .int cell) (N := .list (N.map .int)) (n := n) (r := R) (x6 := d6) hdep (by omega)
  obtain ⟨y6, hw⟩ := hw
  refine ⟨.list (N.map .int), .int n, .list (R.map enc3), d, y6, ?_⟩
  unfold g_law_L2
  apply seq_step
  · simp (disch := first | omega | with_unfolding_all rfl | assumption | decide | (simp only [List.length_cons, List.length_nil]; omega)) only [bnd_ok, gVar_def, gC_def, gOp_def, gUn_def, gNil_def, gCons_def, gIf_def, gTest_def, gNot_def, gAnd_def, gOr_def, gAndV_def, gOrV_def, gNotV_def, gCB_def, asB_b, hAdd_i, hSub_i, hLt_i, hLe_i, hGt_i, hGe_i, hMul_r, hMul_l, hMod_i, hDiv_s, hBand_i, hShr_i, hPow_10_18, hPow_10_27, hPow_10_28, hPow_10_29, hPow_10_30, hEq_i, hNe_i, hLen_l, hLen_t, hMin2_i, hMax2_i, hMin3_i, hInt1_b, hInt1_i, hBits_i, hListOf_l, hListOf_t, hTupOf_l, hTupOf_t, gSeqS_def, gSet_def, gRet_def, gIfS_def, gNext_def, gTup_def, gLst_def, List.getElem?_cons_zero, List.getElem?_cons_succ, List.set_cons_zero, List.set_cons_succ, List.length_cons, List.length_nil, Nat.zero_add, Nat.reduceAdd, Nat.reduceLeDiff, Nat.reduceSub, Nat.reduceMul, if_true, if_false, Bool.false_eq_true, List.replicate_succ, List.replicate_zero, List.cons_append, List.nil_append, tgN, tgT, tgCons, tgNil, Int.reducePow, Int.reduceAdd, Int.reduceSub, Int.reduceMul, decide_true, decide_false, Bool.not_true, Bool.not_false, gChain_def, hIsa_int, hIsa_intb, hIsa_list, hIsa_tuple, gDrop_def, gCallN_def, gAsg_def, gSl_def, gNoPart_def, gPart_def, hSl_from', hSl_to', hN]
    rfl
  apply seq_step
  · simp (disch := first | omega | with_unfolding_all rfl | assumption | decide | (simp only [List.length_cons, List.length_nil]; omega)) only [bnd_ok, gVar_def, gC_def, gOp_def, gUn_def, gNil_def, gCons_def, gIf_def, gTest_def, gNot_def, gAnd_def, gOr_def, gAndV_def, gOrV_def, gNotV_def, gCB_def, asB_b, hAdd_i, hSub_i, hLt_i, hLe_i, hGt_i, hGe_i, hMul_r, hMul_l, hMod_i, hDiv_s, hBand_i, hShr_i, hPow_10_18, hPow_10_27, hPow_10_28, hPow_10_29, hPow_10_30, hEq_i, hNe_i, hLen_l, hLen_t, hMin2_i, hMax2_i, hMin3_i, hInt1_b, hInt1_i, hBits_i, hListOf_l, hListOf_t, hTupOf_l, hTupOf_t, gSeqS_def, gSet_def, gRet_def, gIfS_def, gNext_def, gTup_def, gLst_def, List.getElem?_cons_zero, List.getElem?_cons_succ, List.set_cons_zero, List.set_cons_succ, List.length_cons, List.length_nil, Nat.zero_add, Nat.reduceAdd, Nat.reduceLeDiff, Nat.reduceSub, Nat.reduceMul, if_true, if_false, Bool.false_eq_true, List.replicate_succ, List.replicate_zero, List.cons_append, List.nil_append, tgN, tgT, tgCons, tgNil, Int.reducePow, Int.reduceAdd, Int.reduceSub, Int.reduceMul, decide_true, decide_false, Bool.not_true, Bool.not_false, gChain_def, hIsa_int, hIsa_intb, hIsa_list, hIsa_tuple, gDrop_def, gCallN_def, gAsg_def, gSl_def, gNoPart_def, gPart_def, hSl_from', hSl_to', hR, Int.reduceToNat]
    rfl
  apply seq_step
  · refine set_ok (d := .list (R.map enc3)) ?_
    simp only [bnd_ok, gVar_def, gC_def, gOp_def, gUn_def, gNil_def, gCons_def, gIf_def, gTest_def, gNot_def, gAnd_def, gOr_def, gAndV_def, gOrV_def, gNotV_def, gCB_def, asB_b, hAdd_i, hSub_i, hLt_i, hLe_i, hGt_i, hGe_i, hMul_r, hMul_l, hMod_i, hDiv_s, hBand_i, hShr_i, hPow_10_18, hPow_10_27, hPow_10_28, hPow_10_29, hPow_10_30, hEq_i, hNe_i, hLen_l, hLen_t, hMin2_i, hMax2_i, hMin3_i, hInt1_b, hInt1_i, hBits_i, hListOf_l, hListOf_t, hTupOf_l, hTupOf_t, gSeqS_def, gSet_def, gRet_def, gIfS_def, gNext_def, gTup_def, gLst_def, List.getElem?_cons_zero, List.getElem?_cons_succ, List.set_cons_zero, List.set_cons_succ, List.length_cons, List.length_nil, Nat.zero_add, Nat.reduceAdd, Nat.reduceLeDiff, Nat.reduceSub, Nat.reduceMul, if_true, if_false, Bool.false_eq_true, List.replicate_succ, List.replicate_zero, List.cons_append, List.nil_append, tgN, tgT, tgCons, tgNil, Int.reducePow, Int.reduceAdd, Int.reduceSub, Int.reduceMul, decide_true, decide_false, Bool.not_true, Bool.not_false, gChain_def, hIsa_int, hIsa_intb, hIsa_list, hIsa_tuple, gDrop_def, hcat]
  dsimp only [List.set]
  apply seq_step
  · simp (disch := first | omega | with_unfolding_all rfl | assumption | decide | (simp only [List.length_cons, List.length_nil]; omega)) only [bnd_ok, gVar_def, gC_def, gOp_def, gUn_def, gNil_def, gCons_def, gIf_def, gTest_def, gNot_def, gAnd_def, gOr_def, gAndV_def, gOrV_def, gNotV_def, gCB_def, asB_b, hAdd_i, hSub_i, hLt_i, hLe_i, hGt_i, hGe_i, hMul_r, hMul_l, hMod_i, hDiv_s, hBand_i, hShr_i, hPow_10_18, hPow_10_27, hPow_10_28, hPow_10_29, hPow_10_30, hEq_i, hNe_i, hLen_l, hLen_t, hMin2_i, hMax2_i, hMin3_i, hInt1_b, hInt1_i, hBits_i, hListOf_l, hListOf_t, hTupOf_l, hTupOf_t, gSeqS_def, gSet_def, gRet_def, gIfS_def, gNext_def, gTup_def, gLst_def, List.getElem?_cons_zero, List.getElem?_cons_succ, List.set_cons_zero, List.set_cons_succ, List.length_cons, List.length_nil, Nat.zero_add, Nat.reduceAdd, Nat.reduceLeDiff, Nat.reduceSub, Nat.reduceMul, if_true, if_false, Bool.false_eq_true, List.replicate_succ, List.replicate_zero, List.cons_append, List.nil_append, tgN, tgT, tgCons, tgNil, Int.reducePow, Int.reduceAdd, Int.reduceSub, Int.reduceMul, decide_true, decide_false, Bool.not_true, Bool.not_false, gChain_def, hIsa_int, hIsa_intb, hIsa_list, hIsa_tuple, gDrop_def, gCallN_def, gAsg_def, gSl_def, gNoPart_def, gPart_def, hSl_from', hSl_to', i0, i1, hd]
    rfl
  refine seq_step hw ?_
  apply seq_step
  · have c0 : gCallN 4 f_l_refused (gCons (gVar 3) (gCons (gLst (gNil)) (gCons (gVar 5) (gCons (gC (.int (0))) (gNil))))) [sc, .int cell, .list (N.map .int), .int n, .list (R.map enc3), d, y6] = .ok (.bool true) := callN_ok (ds := [.int n, .list [], d, .int 0]) rfl rfl (refused_ok hdep (by omega) (by omega) (by decide))
    have c1 : gCallN 4 f_l_refused (gCons (gVar 3) (gCons (gLst (gNil)) (gCons (gVar 5) (gCons (gC (.int (1))) (gNil))))) [sc, .int cell, .list (N.map .int), .int n, .list (R.map enc3), d, y6] = .ok (.bool true) := callN_ok (ds := [.int n, .list [], d, .int 1]) rfl rfl (refused_ok hdep (by omega) (by omega) (by decide))
    exact (if_f (by simp only [gOr_def, gNot_def, gTest_def, c0, c1, bnd_ok, asB_b, Bool.not_true, Bool.false_eq_true, if_false])).trans rfl
  apply seq_step
  · have c0 : gCallN 4 f_l_refused (gCons (gVar 3) (gCons (gCB (one hListOf) (gCons (gVar 4) gNil)) (gCons (gVar 5) (gCons (gC (.int (3))) (gNil))))) [sc, .int cell, .list (N.map .int), .int n, .list (R.map enc3), d, y6] = .ok (.bool true) := callN_ok (ds := [.int n, .list (R.map enc3), d, .int 3]) rfl rfl (refused_ok hdep (by omega) (by omega) (by rw [List.length_map]; omega))
    exact (if_f (by simp only [gNot_def, gTest_def, c0, bnd_ok, asB_b, Bool.not_true])).trans rfl
  apply seq_step
  · have c1 : gCallN 3 f_layered (gCons (gVar 3) (gCons (gCB (one hListOf) (gCons (gVar 4) gNil)) (gCons (gC (.int (1))) (gNil)))) [sc, .int cell, .list (N.map .int), .int n, .list (R.map enc3), d, y6] = .ok (.list ((lay 1 R).map .int)) := callN_ok (ds := [.int n, .list (R.map enc3), .int 1]) rfl rfl l1
    have c6 : gCallN 3 f_layered (gCons (gVar 3) (gCons (gCB (one hListOf) (gCons (gVar 4) gNil)) (gCons (gC (.int (6))) (gNil)))) [sc, .int cell, .list (N.map .int), .int n, .list (R.map enc3), d, y6] = .ok (.list ((lay 6 R).map .int)) := callN_ok (ds := [.int n, .list (R.map enc3), .int 6]) rfl rfl l6
    have q1 : gCB hLen (gCons (gCallN 3 f_layered (gCons (gVar 3) (gCons (gCB (one hListOf) (gCons (gVar 4) gNil)) (gCons (gC (.int (1))) (gNil))))) (gNil)) [sc, .int cell, .list (N.map .int), .int n, .list (R.map enc3), d, y6] = .ok (.int R.length) := by
      rw [gCB_def, gCons_def, c1]
      simp only [bnd_ok, gNil_def, hLen_l, List.length_map, ll1]
    have q6 : gCB hLen (gCons (gCallN 3 f_layered (gCons (gVar 3) (gCons (gCB (one hListOf) (gCons (gVar 4) gNil)) (gCons (gC (.int (6))) (gNil))))) (gNil)) [sc, .int cell, .list (N.map .int), .int n, .list (R.map enc3), d, y6] = .ok (.int R.length) := by
      rw [gCB_def, gCons_def, c6]
      simp only [bnd_ok, gNil_def, hLen_l, List.length_map, ll6]
    have q0 : gCB hLen (gCons (gVar 4) (gNil)) [sc, .int cell, .list (N.map .int), .int n, .list (R.map enc3), d, y6] = .ok (.int R.length) := by
      simp only [bnd_ok, gVar_def, gC_def, gOp_def, gUn_def, gNil_def, gCons_def, gIf_def, gTest_def, gNot_def, gAnd_def, gOr_def, gAndV_def, gOrV_def, gNotV_def, gCB_def, asB_b, hAdd_i, hSub_i, hLt_i, hLe_i, hGt_i, hGe_i, hMul_r, hMul_l, hMod_i, hDiv_s, hBand_i, hShr_i, hPow_10_18, hPow_10_27, hPow_10_28, hPow_10_29, hPow_10_30, hEq_i, hNe_i, hLen_l, hLen_t, hMin2_i, hMax2_i, hMin3_i, hInt1_b, hInt1_i, hBits_i, hListOf_l, hListOf_t, hTupOf_l, hTupOf_t, gSeqS_def, gSet_def, gRet_def, gIfS_def, gNext_def, gTup_def, gLst_def, List.getElem?_cons_zero, List.getElem?_cons_succ, List.set_cons_zero, List.set_cons_succ, List.length_cons, List.length_nil, Nat.zero_add, Nat.reduceAdd, Nat.reduceLeDiff, Nat.reduceSub, Nat.reduceMul, if_true, if_false, Bool.false_eq_true, List.replicate_succ, List.replicate_zero, List.cons_append, List.nil_append, tgN, tgT, tgCons, tgNil, Int.reducePow, Int.reduceAdd, Int.reduceSub, Int.reduceMul, decide_true, decide_false, Bool.not_true, Bool.not_false, gChain_def, hIsa_int, hIsa_intb, hIsa_list, hIsa_tuple, gDrop_def, List.length_map]
    have hne := hNe_i (R.length : Int) (R.length : Int)
    exact (if_f (by simp only [gOr_def, gTest_def, gOp_def, q1, q6, q0, bnd_ok, hne, asB_b, beq_self_eq_true, Bool.not_true, Bool.false_eq_true, if_false])).trans rfl
  apply seq_step
  · have c6 : gCallN 3 f_layered (gCons (gVar 3) (gCons (gVar 4) (gCons (gC (.int (6))) (gNil)))) [sc, .int cell, .list (N.map .int), .int n, .list (R.map enc3), d, y6] = .ok (.list ((lay 6 R).map .int)) := callN_ok (ds := [.int n, .list (R.map enc3), .int 6]) rfl rfl l6
    have c1 : gCallN 4 f_layers_right (gCons (gVar 3) (gCons (gVar 4) (gCons (gC (.int (6))) (gCons (gCallN 3 f_layered (gCons (gVar 3) (gCons (gVar 4) (gCons (gC (.int (6))) (gNil))))) (gNil))))) [sc, .int cell, .list (N.map .int), .int n, .list (R.map enc3), d, y6] = .ok (.bool true) :=
      callN_ok (ds := [.int n, .list (R.map enc3), .int 6, .list ((lay 6 R).map .int)]) (by rw [gCons_def, gCons_def, gCons_def, gCons_def, c6]; rfl) rfl hv
    exact (if_f (by simp only [gNot_def, gTest_def, c1, bnd_ok, asB_b, Bool.not_true])).trans rfl
  · have hargs : gCons (gVar 3) (gCons (gVar 4) (gCons (gC (.int (1))) (gCons (gOp hSub (gCB hLen (gCons (gVar 4) (gNil))) (gC (.int (1)))) (gNil)))) [sc, .int cell, .list (N.map .int), .int n, .list (R.map enc3), d, y6] = .ok [.int n, .list (R.map enc3), .int 1, .int (r.length : Nat)] := by
      have e : ((R.length : Nat) : Int) - 1 = (r.length : Nat) := by omega
      simp only [bnd_ok, gVar_def, gC_def, gOp_def, gUn_def, gNil_def, gCons_def, gIf_def, gTest_def, gNot_def, gAnd_def, gOr_def, gAndV_def, gOrV_def, gNotV_def, gCB_def, asB_b, hAdd_i, hSub_i, hLt_i, hLe_i, hGt_i, hGe_i, hMul_r, hMul_l, hMod_i, hDiv_s, hBand_i, hShr_i, hPow_10_18, hPow_10_27, hPow_10_28, hPow_10_29, hPow_10_30, hEq_i, hNe_i, hLen_l, hLen_t, hMin2_i, hMax2_i, hMin3_i, hInt1_b, hInt1_i, hBits_i, hListOf_l, hListOf_t, hTupOf_l, hTupOf_t, gSeqS_def, gSet_def, gRet_def, gIfS_def, gNext_def, gTup_def, gLst_def, List.getElem?_cons_zero, List.getElem?_cons_succ, List.set_cons_zero, List.set_cons_succ, List.length_cons, List.length_nil, Nat.zero_add, Nat.reduceAdd, Nat.reduceLeDiff, Nat.reduceSub, Nat.reduceMul, if_true, if_false, Bool.false_eq_true, List.replicate_succ, List.replicate_zero, List.cons_append, List.nil_append, tgN, tgT, tgCons, tgNil, Int.reducePow, Int.reduceAdd, Int.reduceSub, Int.reduceMul, decide_true, decide_false, Bool.not_true, Bool.not_false, gChain_def, hIsa_int, hIsa_intb, hIsa_list, hIsa_tuple, gDrop_def, List.length_map, e]
    have htup : gTup (gCons (gLst (gNil)) (gCons (gLst (gCons (gLst (gNil)) (gNil))) (gNil))) [sc, .int cell, .list (N.map .int), .int n, .list (R.map enc3), d, y6] = .ok (.tuple [.list [], .list [.list []]]) := rfl
    have key : ∀ z : Dt, (z = .list [] ∨ z = .list [.list []]) → f_strands [.int n, .list (R.map enc3), .int 1, .int (r.length : Nat)] = .ok z →
        gIfS (gTest (gOp hNotIn (gCallN 4 f_strands (gCons (gVar 3) (gCons (gVar 4) (gCons (gC (.int (1))) (gCons (gOp hSub (gCB hLen (gCons (gVar 4) (gNil))) (gC (.int (1)))) (gNil)))))) (gTup (gCons (gLst (gNil)) (gCons (gLst (gCons (gLst (gNil)) (gNil))) (gNil)))))) (gRet (gC (.bool false))) (gNext) [sc, .int cell, .list (N.map .int), .int n, .list (R.map enc3), d, y6] = .ok (.nx [sc, .int cell, .list (N.map .int), .int n, .list (R.map enc3), d, y6]) := fun z hz hs => by
      have c1 : gCallN 4 f_strands (gCons (gVar 3) (gCons (gVar 4) (gCons (gC (.int (1))) (gCons (gOp hSub (gCB hLen (gCons (gVar 4) (gNil))) (gC (.int (1)))) (gNil))))) [sc, .int cell, .list (N.map .int), .int n, .list (R.map enc3), d, y6] = .ok z := callN_ok hargs rfl hs
      exact (if_f (by simp only [gTest_def, gOp_def, c1, htup, bnd_ok, hNotIn_st z hz, asB_b])).trans rfl
    rcases hst with hs | hs
    · exact key _ (.inl rfl) hs
    · exact key _ (.inr rfl) hs
theorem law_true (ns : List Int) (hl : ns.length ≤ 63) (_ : ∀ z ∈ ns, Builtin.Int.intBits z ≤ 1048576) : f_law [.list (ns.map .int)] = .ok (.bool true) := by
  refine fnN_rt ?_
  obtain ⟨ρ', hf, e1, e2, e3, e4, e5, e6, rfl⟩ := forE_ix PyData.int (h := tgN 1) (b := g_law_L2) (ns.take 30 ++ [(ns.length : Int)])
    (fun _ ρ => ∃ e1 e2 e3 e4 e5 e6, ρ = [.list (ns.map .int), e1, e2, e3, e4, e5, e6])
    (ρ := [.list (ns.map .int), .none, .none, .none, .none, .none, .none]) ⟨_, _, _, _, _, _, rfl⟩ (by
      rintro i ρ hi ⟨e1, e2, e3, e4, e5, e6, rfl⟩
      obtain ⟨f2, f3, f4, f5, f6, h1⟩ := body_ok (.list (ns.map .int)) (ns.take 30 ++ [(ns.length : Int)])[i] e2 e3 e4 e5 e6
      exact ⟨_, _, rfl, .inl h1, _, f2, f3, f4, f5, f6, rfl⟩)
  show g_law [.list (ns.map .int), .none, .none, .none, .none, .none, .none] = _
  unfold g_law
  have hc : hCat (.list ((ns.take 30).map .int)) (.list [.int ns.length]) = .ok (.list ((ns.take 30 ++ [(ns.length : Int)]).map .int)) := hCat_map PyData.int (ns.take 30) [(ns.length : Int)] (by rw [List.length_take, List.length_singleton]; omega)
  refine seq_step (for_ok (ds := (ns.take 30 ++ [(ns.length : Int)]).map .int) (seqG_l ?_) hf) ?_
  · simp (disch := first | omega | decide) only [bnd_ok, gVar_def, gC_def, gOp_def, gUn_def, gNil_def, gCons_def, gIf_def, gTest_def, gNot_def, gAnd_def, gOr_def, gAndV_def, gOrV_def, gNotV_def, gCB_def, asB_b, hAdd_i, hSub_i, hLt_i, hLe_i, hGt_i, hGe_i, hMul_r, hMul_l, hMod_i, hDiv_s, hBand_i, hShr_i, hPow_10_18, hPow_10_27, hPow_10_28, hPow_10_29, hPow_10_30, hEq_i, hNe_i, hLen_l, hLen_t, hMin2_i, hMax2_i, hMin3_i, hInt1_b, hInt1_i, hBits_i, hListOf_l, hListOf_t, hTupOf_l, hTupOf_t, gSeqS_def, gSet_def, gRet_def, gIfS_def, gNext_def, gTup_def, gLst_def, List.getElem?_cons_zero, List.getElem?_cons_succ, List.set_cons_zero, List.set_cons_succ, List.length_cons, List.length_nil, Nat.zero_add, Nat.reduceAdd, Nat.reduceLeDiff, Nat.reduceSub, Nat.reduceMul, if_true, if_false, Bool.false_eq_true, List.replicate_succ, List.replicate_zero, List.cons_append, List.nil_append, tgN, tgT, tgCons, tgNil, Int.reducePow, Int.reduceAdd, Int.reduceSub, Int.reduceMul, decide_true, decide_false, Bool.not_true, Bool.not_false, gChain_def, hIsa_int, hIsa_intb, hIsa_list, hIsa_tuple, gDrop_def, gCallN_def, gAsg_def, gSl_def, gNoPart_def, gPart_def, hSl_from', hSl_to', Int.reduceToNat, List.length_map, hc]
  · simp only [bnd_ok, gVar_def, gC_def, gOp_def, gUn_def, gNil_def, gCons_def, gIf_def, gTest_def, gNot_def, gAnd_def, gOr_def, gAndV_def, gOrV_def, gNotV_def, gCB_def, asB_b, hAdd_i, hSub_i, hLt_i, hLe_i, hGt_i, hGe_i, hMul_r, hMul_l, hMod_i, hDiv_s, hBand_i, hShr_i, hPow_10_18, hPow_10_27, hPow_10_28, hPow_10_29, hPow_10_30, hEq_i, hNe_i, hLen_l, hLen_t, hMin2_i, hMax2_i, hMin3_i, hInt1_b, hInt1_i, hBits_i, hListOf_l, hListOf_t, hTupOf_l, hTupOf_t, gSeqS_def, gSet_def, gRet_def, gIfS_def, gNext_def, gTup_def, gLst_def, List.getElem?_cons_zero, List.getElem?_cons_succ, List.set_cons_zero, List.set_cons_succ, List.length_cons, List.length_nil, Nat.zero_add, Nat.reduceAdd, Nat.reduceLeDiff, Nat.reduceSub, Nat.reduceMul, if_true, if_false, Bool.false_eq_true, List.replicate_succ, List.replicate_zero, List.cons_append, List.nil_append, tgN, tgT, tgCons, tgNil, Int.reducePow, Int.reduceAdd, Int.reduceSub, Int.reduceMul, decide_true, decide_false, Bool.not_true, Bool.not_false, gChain_def, hIsa_int, hIsa_intb, hIsa_list, hIsa_tuple, gDrop_def]
end K13
end T_K13S
open PySem PySem.W PyProof.Rows
set_option maxRecDepth 100000 in
set_option maxHeartbeats 0 in
theorem PySem.Challenge.cw_sinceply_k13_layers_refused_holds : PySem.Challenge.rw_sinceply_k13_layers_refused.Holds := by
  w_on; o_law; k_head; (case hw => w_witness2)
  k_fill
  refine L2.walk_ofB (l := PySem.Challenge.rw_sinceply_k13_layers_refused) (n := 63) (k := 7) (x := "script") (CX := fun _ => L2.CX0) (sp := fun w => Sim.spLaw _ K13.f_law) rfl (by decide) rfl ⟨rfl, by decide, by decide⟩ (fun w h Y => PySem.W.kIn_of Y) ?F (fun _ _ a ns hl hb _ hS => Sim.spLaw_of hS (K13.law_true ns hl hb)) (fun _ _ _ _ _ h => h)
  case F =>
    intro w mg fa h KX G hmg
    refine' Sim.okLaw_of (K13.all_mk KX G hmg ?a0 ?l0 ?c0 ?k0 ?a1 ?l1 ?c1 ?k1 ?a2 ?l2 ?c2 ?k2 ?a3 ?l3 ?c3 ?k3 ?a4 ?l4 ?c4 ?k4 ?a5 ?l5 ?c5 ?k5 ?a6 ?l6 ?c6 ?k6 ?a7 ?l7 ?c7 ?k7 ?a8 ?l8 ?c8 ?k8 ?a9 ?l9 ?c9 ?k9 ?a10 ?l10 ?c10 ?k10 ?a11 ?l11 ?c11 ?k11 ?a12 ?l12 ?c12 ?k12 ?a13 ?l13 ?c13 ?k13 ?a14 ?l14 ?c14 ?k14 ?a15 ?l15 ?c15 ?k15 ?z_isinstance ?z_int ?z_bool ?z_min ?z_max ?z_enumerate ?z_range ?z_list ?z_reversed ?z_len ?z_zip ?z_ValueError ?y_MOST_LAYERS ?u1_NoLayers ?u2_NoLayers ?u3_NoLayers ?u4_NoLayers ?u5_NoLayers ?u6_NoLayers ?u7_NoLayers ?u8_NoLayers ?u9_NoLayers ?uQ_NoLayers ?u1_PlyError ?u2_PlyError ?u3_PlyError ?u4_PlyError ?u5_PlyError ?u6_PlyError ?u7_PlyError ?u8_PlyError ?u9_PlyError ?u1_Unlike ?u2_Unlike ?u3_Unlike ?u4_Unlike ?u5_Unlike ?u6_Unlike ?u7_Unlike ?u8_Unlike ?u9_Unlike ?u1_NoTies ?u2_NoTies ?u3_NoTies ?u4_NoTies ?u5_NoTies ?u6_NoTies ?u7_NoTies ?u8_NoTies ?u9_NoTies ?u1_NoText ?u2_NoText ?u3_NoText ?u4_NoText ?u5_NoText ?u6_NoText ?u7_NoText ?u8_NoText ?u9_NoText ?u1_NoPlaces ?u2_NoPlaces ?u3_NoPlaces ?u4_NoPlaces ?u5_NoPlaces ?u6_NoPlaces ?u7_NoPlaces ?u8_NoPlaces ?u9_NoPlaces ?u1_NoPair ?u2_NoPair ?u3_NoPair ?u4_NoPair ?u5_NoPair ?u6_NoPair ?u7_NoPair ?u8_NoPair ?u9_NoPair ?u1_NoNet ?u2_NoNet ?u3_NoNet ?u4_NoNet ?u5_NoNet ?u6_NoNet ?u7_NoNet ?u8_NoNet ?u9_NoNet ?u1_Clash ?u2_Clash ?u3_Clash ?u4_Clash ?u5_Clash ?u6_Clash ?u7_Clash ?u8_Clash ?u9_Clash ?un ?ut ?uS_NoLayers_PlyError ?uS_NoLayers_NoLayers ?uS_NoLayers_ValueError ?uS_NoLayers_Unlike ?uS_NoLayers_NoTies ?uS_NoLayers_NoText ?uS_NoLayers_NoPlaces ?uS_NoLayers_NoPair ?uS_NoLayers_NoNet ?uS_NoLayers_Clash)
    (case a0 => k_is); (case l0 => k_is); (case c0 => k_is); (case k0 => k_is); (case a1 => k_is); (case l1 => k_is); (case c1 => k_is); (case k1 => k_is); (case a2 => k_is); (case l2 => k_is); (case c2 => k_is); (case k2 => k_is); (case a3 => k_is); (case l3 => k_is); (case c3 => k_is); (case k3 => k_is); (case a4 => k_is); (case l4 => k_is); (case c4 => k_is); (case k4 => k_is); (case a5 => k_is); (case l5 => k_is); (case c5 => k_is); (case k5 => k_is); (case a6 => k_is); (case l6 => k_is); (case c6 => k_is); (case k6 => k_is); (case a7 => k_is); (case l7 => k_is); (case c7 => k_is); (case k7 => k_is); (case a8 => k_is); (case l8 => k_is); (case c8 => k_is); (case k8 => k_is); (case a9 => k_is); (case l9 => k_is); (case c9 => k_is); (case k9 => k_is); (case a10 => k_is); (case l10 => k_is); (case c10 => k_is); (case k10 => k_is); (case a11 => k_is); (case l11 => k_is); (case c11 => k_is); (case k11 => k_is); (case a12 => k_is); (case l12 => k_is); (case c12 => k_is); (case k12 => k_is); (case a13 => k_is); (case l13 => k_is); (case c13 => k_is); (case k13 => k_is); (case a14 => k_is); (case l14 => k_is); (case c14 => k_is); (case k14 => k_is); (case a15 => k_is); (case l15 => k_is); (case c15 => k_is); (case k15 => k_is); (case z_isinstance => k_is); (case z_int => k_is); (case z_bool => k_is); (case z_min => k_is); (case z_max => k_is); (case z_enumerate => k_is); (case z_range => k_is); (case z_list => k_is); (case z_reversed => k_is); (case z_len => k_is); (case z_zip => k_is); (case z_ValueError => k_is); (case y_MOST_LAYERS => k_is); (case u1_NoLayers => k_is); (case u2_NoLayers => k_is); (case u3_NoLayers => k_is); (case u4_NoLayers => k_is); (case u5_NoLayers => k_is); (case u6_NoLayers => k_is); (case u7_NoLayers => k_is); (case u8_NoLayers => k_is); (case u9_NoLayers => k_is); (case uQ_NoLayers => k_exc); (case u1_PlyError => k_is); (case u2_PlyError => k_is); (case u3_PlyError => k_is); (case u4_PlyError => k_is); (case u5_PlyError => k_is); (case u6_PlyError => k_is); (case u7_PlyError => k_is); (case u8_PlyError => k_is); (case u9_PlyError => k_is); (case u1_Unlike => k_is); (case u2_Unlike => k_is); (case u3_Unlike => k_is); (case u4_Unlike => k_is); (case u5_Unlike => k_is); (case u6_Unlike => k_is); (case u7_Unlike => k_is); (case u8_Unlike => k_is); (case u9_Unlike => k_is); (case u1_NoTies => k_is); (case u2_NoTies => k_is); (case u3_NoTies => k_is); (case u4_NoTies => k_is); (case u5_NoTies => k_is); (case u6_NoTies => k_is); (case u7_NoTies => k_is); (case u8_NoTies => k_is); (case u9_NoTies => k_is); (case u1_NoText => k_is); (case u2_NoText => k_is); (case u3_NoText => k_is); (case u4_NoText => k_is); (case u5_NoText => k_is); (case u6_NoText => k_is); (case u7_NoText => k_is); (case u8_NoText => k_is); (case u9_NoText => k_is); (case u1_NoPlaces => k_is); (case u2_NoPlaces => k_is); (case u3_NoPlaces => k_is); (case u4_NoPlaces => k_is); (case u5_NoPlaces => k_is); (case u6_NoPlaces => k_is); (case u7_NoPlaces => k_is); (case u8_NoPlaces => k_is); (case u9_NoPlaces => k_is); (case u1_NoPair => k_is); (case u2_NoPair => k_is); (case u3_NoPair => k_is); (case u4_NoPair => k_is); (case u5_NoPair => k_is); (case u6_NoPair => k_is); (case u7_NoPair => k_is); (case u8_NoPair => k_is); (case u9_NoPair => k_is); (case u1_NoNet => k_is); (case u2_NoNet => k_is); (case u3_NoNet => k_is); (case u4_NoNet => k_is); (case u5_NoNet => k_is); (case u6_NoNet => k_is); (case u7_NoNet => k_is); (case u8_NoNet => k_is); (case u9_NoNet => k_is); (case u1_Clash => k_is); (case u2_Clash => k_is); (case u3_Clash => k_is); (case u4_Clash => k_is); (case u5_Clash => k_is); (case u6_Clash => k_is); (case u7_Clash => k_is); (case u8_Clash => k_is); (case u9_Clash => k_is); (case un => k_is); (case ut => k_is); (case uS_NoLayers_PlyError => k_is); (case uS_NoLayers_NoLayers => k_is); (case uS_NoLayers_ValueError => k_is); (case uS_NoLayers_Unlike => k_is); (case uS_NoLayers_NoTies => k_is); (case uS_NoLayers_NoText => k_is); (case uS_NoLayers_NoPlaces => k_is); (case uS_NoLayers_NoPair => k_is); (case uS_NoLayers_NoNet => k_is); (case uS_NoLayers_Clash => k_is)
